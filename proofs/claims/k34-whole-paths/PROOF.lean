import PyProof.Rows.All
import Wide.All
import OpenK.AllK
import Wide.FinOn
import HandS.ForMost
import HandS.ForExc
import HandS.CallSlots
import HandS.IsInst
import HandS.Deep
import HandS.More
import HandS.Flow
import HandS.RaiseMore
import HandS.TupAny
import HandS.Style
import HandS.Walk
import PyProof.ReprRoads
import PyProof.StrOps2
import PySem.Challenge.RW_coverways_k34_whole_paths
set_option Elab.async false
set_option linter.all false
set_option maxRecDepth 100000
set_option maxHeartbeats 1000000
set_option maxRecDepth 100000
set_option maxHeartbeats 1000000
/-! # A reader of programs: from a def's text to what must be shown of it, by one proved function -/
namespace CW
open PySem PySem.Spec PyProof.Rows L2

/-! ## 1. The text's small conditions -/
def noStar : Expr → Bool
  | .Starred .. => false
  | _ => true
def isComp : Expr → Bool
  | .ListComp .. => true
  | .SetComp .. => true
  | .DictComp .. => true
  | _ => false
theorem star_cons {e : Expr} {es : List Expr} {env : Env} (h : noStar e = true) : starEach (e :: es) env = (false, eval e env) :: starEach es env := by
  cases e <;> first | rfl | cases h
theorem star_any {env : Env} {pos : Pos} : ∀ {es : List Expr}, es.all noStar = true → (backTo pos (starEach es env)).any (·.1) = false
  | [], _ => rfl
  | e :: es, h => by
    rw [List.all_cons, Bool.and_eq_true] at h
    rw [star_cons h.1]
    show (false || (backTo pos (starEach es env)).any (·.1)) = false
    rw [star_any h.2]; rfl
theorem star_all {env : Env} {pos : Pos} : ∀ {es : List Expr}, es.all noStar = true → (backTo pos (starEach es env)).all (fun x => !x.1) = true
  | [], _ => rfl
  | e :: es, h => by
    rw [List.all_cons, Bool.and_eq_true] at h
    rw [star_cons h.1]
    show (true && (backTo pos (starEach es env)).all (fun x => !x.1)) = true
    rw [star_all h.2]; rfl
theorem swaps_no {e : Expr} {t : Option Expr} {l : Nat} {env : Env} (h : isComp e = false) : swapsWith e t l env = pure false := by
  cases e <;> first | rfl | cases h
theorem base_ok {o : Expr} {nm : Str} {env : Env} (h : (match o with | .Call (.Name _ _) [] [] _ => false | _ => true) = true) : attributeBase o nm env (eval o env) = eval o env := by
  unfold attributeBase
  split
  · cases h
  · rfl
def plainTest : Expr → Bool
  | .UnaryOp .Not _ _ => false
  | .BoolOp .. => false
  | .IfExp .. => false
  | .Compare .. => false
  | _ => true
theorem isTrue_is {e : Expr} {env : Env} (h : plainTest e = true) : ∀ whole, isTrue e env whole = (do let v ← whole; standAt e.pos; holding [v] (truthy v)) := by
  intro whole
  cases e <;> first | rfl | (cases h; done) | skip
  case UnaryOp op a p => cases op <;> first | rfl | cases h
def notSlice : Expr → Bool
  | .Slice .. => false
  | _ => true
theorem ix_plain {b : Expr} (h : notSlice b = true) : PlainIx b := fun o i => by cases b <;> first | rfl | cases h
theorem folded_no {e : Expr} {env : Env} (h : (match e with | .Set .. => false | _ => true) = true) : ∀ x, foldedSetIterable e env x = pure x := fun x => by
  cases e <;> first | rfl | cases h
end CW

namespace CW
open PySem PySem.Spec PyProof.Rows L2
/-! ## 2. Rules by values -/
/-- the text z, n times -/
def strRep (z : Str) (n : Int) : Str := if n < 1 then Str.empty else if (n == 1 || z.length == 0) = true then z else ⟨(List.replicate n.toNat z.cps).foldl (· ++ ·) #[]⟩
def rBin (K : PySem.W.Frag) (op : Operator) : R2 := fun x y H Q => match op, x, y with
  | .Add, .int i, .int j => Q (.int (i + j)) H
  | .Add, .str i, .str j => i.length + j.length ≤ sizeLine ∧ Q (.str (i ++ j)) H
  | .Add, .ref a, .ref b => rCat (.ref a) (.ref b) H Q ∨ rCatA K (.ref a) (.ref b) H Q
  | .Sub, .int i, .int j => Q (.int (i - j)) H
  | .Mult, .int i, .int j => CMul i j ∧ Q (.int (i * j)) H
  | .Mult, .str z, .int n => (n < 1000000 ∧ -1000000 < n ∧ z.length * n.toNat ≤ sizeLine) ∧ Q (.str (strRep z n)) H
  | .Mult, .ref a, .int k => rRep (.ref a) (.int k) H Q
  | .Mod, .int i, .int j => 0 < j ∧ Q (.int (i % j)) H
  | .FloorDiv, .int i, .int j => CDiv i j ∧ Q (.int (i / j)) H
  | .Pow, .int i, .int j => CPow i j ∧ Q (.int (i ^ j.toNat)) H
  | .LShift, .int i, .int j => CPow i j ∧ Q (.int (i * 2 ^ j.toNat)) H
  | _, _, _ => False
section
variable {X : Cx}
theorem op_mulS : OpR X (binaryOp .Mult) (fun x y H Q => ∃ z n, x = .str z ∧ y = .int n ∧ (n < 1000000 ∧ -1000000 < n ∧ z.length * n.toNat ≤ sizeLine) ∧ Q (.str (strRep z n)) H) := by
  intro pins s σ H x y v u Q I rx ry h
  obtain ⟨z, n, rfl, rfl, ⟨h1, h2, h3⟩, q⟩ := h
  obtain ⟨t, rfl⟩ := rx
  obtain ⟨t', rfl⟩ := ry
  have hz : z.length ≤ sizeLine ∨ n < 1 := by
    by_cases c : n < 1
    · exact .inr c
    · left
      have : 1 ≤ n.toNat := by omega
      exact Nat.le_trans (Nat.le_mul_of_pos_right _ this) h3
  have hs : (sizeLine : Nat) = 16777216 := sizeLine_eq
  refine P.mul_str ?_ ?_ ?_ ?_
  · have e1 : decide (n < -(2 ^ 63 : Int)) = false := decide_eq_false (by omega)
    have e2 : decide (n ≥ 2 ^ 63) = false := decide_eq_false (by omega)
    rw [e1, e2]; rfl
  · intro c _ g
    have hz' : z.length ≤ sizeLine := by rcases hz with z | z; exact z; exact absurd z c
    have : (2 ^ 63 - 1) / n ≥ (2 ^ 63 - 1) / 1000000 := by
      apply Int.le_ediv_of_mul_le (by omega)
      have : (2 ^ 63 - 1 : Int) / 1000000 * n ≤ (2 ^ 63 - 1 : Int) / 1000000 * 1000000 := Int.mul_le_mul_of_nonneg_left (by omega) (by decide)
      have e : (2 ^ 63 - 1 : Int) / 1000000 * 1000000 ≤ 2 ^ 63 - 1 := by decide
      omega
    have e : (2 ^ 63 - 1 : Int) / 1000000 = 9223372036854 := by decide
    omega
  · intro _ _
    unfold Builtin.Str.tooLong
    exact decide_eq_false (by omega)
  · unfold strRep at q
    by_cases c : n < 1
    · rw [if_pos c] at q ⊢
      exact ⟨by decide, .str Str.empty, H, I.tok _, ⟨_, rfl⟩, q⟩
    · rw [if_neg c] at q ⊢
      by_cases c2 : (n == 1 || z.length == 0) = true
      · rw [if_pos c2] at q ⊢
        exact ⟨.str z, H, I, ⟨_, rfl⟩, q⟩
      · rw [if_neg c2] at q ⊢
        refine ⟨?_, .str _, H, I.tok _, ⟨_, rfl⟩, q⟩
        have : ∀ (k : Nat) (acc : Array Nat), ((List.replicate k z.cps).foldl (· ++ ·) acc).size = acc.size + z.cps.size * k := by
          intro k
          induction k with
          | zero => intro acc; simp
          | succ k ih => intro acc; rw [List.replicate_succ, List.foldl_cons, ih, Array.size_append, Nat.mul_succ]; omega
        show ((List.replicate n.toNat z.cps).foldl (· ++ ·) #[]).size ≤ sizeLine
        rw [this]
        simpa [Str.length] using h3
theorem bin_ok (op : Operator) : OpR X (binaryOp op) (rBin X.K op) := by
  intro pins s σ H x y v u Q I rx ry h
  unfold rBin at h
  split at h
  · exact op_add pins s σ H _ _ v u Q I rx ry ⟨_, _, rfl, rfl, h⟩
  · exact op_add_str pins s σ H _ _ v u Q I rx ry ⟨_, _, rfl, rfl, h⟩
  · rcases h with h | h
    · exact op_cat pins s σ H _ _ v u Q I rx ry h
    · exact op_catA pins s σ H _ _ v u Q I rx ry h
  · exact op_sub pins s σ H _ _ v u Q I rx ry ⟨_, _, rfl, rfl, h⟩
  · exact op_mul pins s σ H _ _ v u Q I rx ry ⟨_, _, rfl, rfl, h⟩
  · exact op_mulS pins s σ H _ _ v u Q I rx ry ⟨_, _, rfl, rfl, h⟩
  · exact op_rep pins s σ H _ _ v u Q I rx ry h
  · exact op_mod pins s σ H _ _ v u Q I rx ry ⟨_, _, rfl, rfl, h⟩
  · exact op_fdiv pins s σ H _ _ v u Q I rx ry ⟨_, _, rfl, rfl, h⟩
  · exact op_pow pins s σ H _ _ v u Q I rx ry ⟨_, _, rfl, rfl, h⟩
  · exact op_shl pins s σ H _ _ v u Q I rx ry ⟨_, _, rfl, rfl, h⟩
  · exact h.elim
def rUn (op : UnaryOp) : V → Hp → VK → Prop := fun x H Q => match op, x with
  | .USub, .int i => Q (.int (-i)) H
  | _, _ => False
theorem un_ok (op : UnaryOp) : UnR X (unaryOp op) (rUn op) := by
  intro pins s σ H x v Q I rx h
  unfold rUn at h
  split at h
  · exact un_neg pins s σ H _ v Q I rx ⟨_, rfl, h⟩
  · exact h.elim
/-- a comparison -/
def rCmp (K : PySem.W.Frag) (op : CmpOp) : R2 := fun x y H Q => match op, x, y with
  | .Eq, .ref a, y => rEqD K (.ref a) y H Q
  | .Eq, x, .ref b => rEqD K x (.ref b) H Q
  | .Eq, .bl b, .int i => rEqD K (.bl b) (.int i) H Q
  | .Eq, .int i, .bl b => rEqD K (.int i) (.bl b) H Q
  | .Eq, x, y => rEq x y H Q
  | .NotEq, .ref a, y => rNeD K (.ref a) y H Q
  | .NotEq, x, .ref b => rNeD K x (.ref b) H Q
  | .NotEq, .bl b, .int i => rNeD K (.bl b) (.int i) H Q
  | .NotEq, .int i, .bl b => rNeD K (.int i) (.bl b) H Q
  | .NotEq, x, y => rNe x y H Q
  | .Lt, .int i, .int j => Q (.bl (decide (i < j))) H
  | .LtE, .int i, .int j => Q (.bl (decide (i ≤ j))) H
  | .Gt, .int i, .int j => Q (.bl (decide (j < i))) H
  | .GtE, .int i, .int j => Q (.bl (decide (j ≤ i))) H
  | .Lt, .str i, .str j => Q (.bl (decide (i.cps.toList < j.cps.toList))) H
  | .In, .str i, .str j => (∃ c, i = ⟨#[c]⟩ ∧ Q (.bl (decide (c ∈ j.cps.toList))) H)
  | .NotIn, .str i, .str j => (∃ c, i = ⟨#[c]⟩ ∧ Q (.bl (!decide (c ∈ j.cps.toList))) H)
  | .In, x, .ref p => rIn K false x (.ref p) H Q ∨ rInD K x (.ref p) H Q
  | .NotIn, x, .ref p => rIn K true x (.ref p) H Q ∨ rNotInD K x (.ref p) H Q
  | .Is, x, .non => Q (.bl (decide (x = .non))) H
  | .IsNot, x, .non => Q (.bl (!decide (x = .non))) H
  | _, _, _ => False
theorem cmp_ok (hu : X.A.units + 65 < cLine) (op : CmpOp) : OpR X (compareOp op) (rCmp X.K op) := by
  intro pins s σ H x y v u Q I rx ry h
  have hu4 : X.A.units + 64 < cLine := by omega
  unfold rCmp at h
  split at h
  · exact op_eqD hu4 pins s σ H _ _ v u Q I rx ry h
  · exact op_eqD hu4 pins s σ H _ _ v u Q I rx ry h
  · exact op_eqD hu4 pins s σ H _ _ v u Q I rx ry h
  · exact op_eqD hu4 pins s σ H _ _ v u Q I rx ry h
  · exact op_eq pins s σ H _ _ v u Q I rx ry h
  · exact op_neD hu4 pins s σ H _ _ v u Q I rx ry h
  · exact op_neD hu4 pins s σ H _ _ v u Q I rx ry h
  · exact op_neD hu4 pins s σ H _ _ v u Q I rx ry h
  · exact op_neD hu4 pins s σ H _ _ v u Q I rx ry h
  · exact op_ne pins s σ H _ _ v u Q I rx ry h
  · exact op_lt pins s σ H _ _ v u Q I rx ry ⟨_, _, rfl, rfl, h⟩
  · exact op_le pins s σ H _ _ v u Q I rx ry ⟨_, _, rfl, rfl, h⟩
  · exact op_gt pins s σ H _ _ v u Q I rx ry ⟨_, _, rfl, rfl, h⟩
  · exact op_ge pins s σ H _ _ v u Q I rx ry ⟨_, _, rfl, rfl, h⟩
  · exact op_lt_str pins s σ H _ _ v u Q I rx ry ⟨_, _, rfl, rfl, h⟩
  · obtain ⟨c, rfl, h⟩ := h
    exact op_in_sign pins s σ H _ _ v u Q I rx ry ⟨_, _, rfl, rfl, h⟩
  · obtain ⟨c, rfl, h⟩ := h
    exact op_notIn_sign pins s σ H _ _ v u Q I rx ry ⟨_, _, rfl, rfl, h⟩
  · rcases h with h | h
    · exact op_in_seq pins s σ H _ _ v u Q I rx ry h
    · exact op_inD hu pins s σ H _ _ v u Q I rx ry h
  · rcases h with h | h
    · exact op_notIn_seq pins s σ H _ _ v u Q I rx ry h
    · exact op_notInD hu pins s σ H _ _ v u Q I rx ry h
  · exact op_isN pins s σ H _ _ v u Q I rx ry ⟨rfl, h⟩
  · exact op_notN pins s σ H _ _ v u Q I rx ry ⟨rfl, h⟩
  · exact h.elim
/-- truth -/
def rTru (K : PySem.W.Frag) (x : V) (H : Hp) (Q : Bool → Hp → Prop) : Prop := match x with
  | .non => Q false H
  | .bl b => Q b H
  | .int i => Q (i != 0) H
  | .str z => z.length ≤ sizeLine ∧ Q ((z.length : Int) != 0) H
  | .ref a => ∃ k, TruV K (.ref a) H k ∧ Q k H
  | _ => False
theorem tru_of {K : PySem.W.Frag} {x : V} {H : Hp} {Q : Bool → Hp → Prop} (h : rTru K x H Q) : ∃ k, TruV K x H k ∧ Q k H := by
  cases x with
  | non => exact ⟨false, rfl, h⟩
  | bl b => exact ⟨b, rfl, h⟩
  | int i => exact ⟨_, rfl, h⟩
  | str z => exact ⟨_, ⟨h.1, rfl⟩, h.2⟩
  | ref a => exact h
  | byt b => exact h.elim
  | flt b => exact h.elim
  | ty n => exact h.elim
end
end CW

namespace CW
open PySem PySem.Spec PyProof.Rows L2
/-! ## 3. Items, slices, built-ins -/
/-- an item -/
def rSub (K : PySem.W.Frag) : R2 := fun x y H Q => match x, y with
  | .str z, .int i => (z.length ≤ sizeLine ∧ ∃ c, atI z.cps.toList i = some c ∧ Q (.str ⟨#[c]⟩) H)
  | .ref p, y => rIxL K (.ref p) y H Q ∨ rIxT K (.ref p) y H Q ∨ ∃ v, DGet H p y (some v) ∧ Q v H
  | _, _ => False
section
variable {X : Cx}
theorem ix_dict (hu : X.A.units + 1 < cLine) : IxR X (fun x y H Q => ∃ p v, x = .ref p ∧ DGet H p y (some v) ∧ Q v H) := by
  intro value slice pins s σ H x y v u Q I rx ry h hs
  obtain ⟨p, z, rfl, g, q⟩ := h
  obtain rfl : v = Value.ref p := rx
  exact tail_any (dict_typeIs I g) PySem.F.slot_dict_getitem.lookup (d_getItem hu I g ry fun w' s3 I3 rw' => ⟨z, H, I3, rw', q⟩) hs
theorem sub_ok (hu : X.A.units + 1 < cLine) : IxR X (rSub X.K) := by
  intro value slice pins s σ H x y v u Q I rx ry h hs
  unfold rSub at h
  split at h
  · obtain ⟨h1, c, h2, q⟩ := h
    exact ix_str value slice pins s σ H _ _ v u Q I rx ry ⟨_, _, c, rfl, rfl, h1, h2, q⟩ hs
  · rcases h with h | h | ⟨w, g, q⟩
    · exact ix_list value slice pins s σ H _ _ v u Q I rx ry h hs
    · exact ix_tup value slice pins s σ H _ _ v u Q I rx ry h hs
    · exact ix_dict hu value slice pins s σ H _ _ v u Q I rx ry ⟨_, w, rfl, g, q⟩ hs
  · exact h.elim
/-- a slice -/
def rSlc (K : PySem.W.Frag) : V → Option Int → Option Int → Hp → VK → Prop := fun x lo hi H Q => match x with
  | .str z => z.length ≤ sizeLine ∧ Q (.str (cutS z lo hi)) H
  | .ref p => rSlL K (.ref p) lo hi H Q
  | _ => False
theorem slc_ok : SlR X (rSlc X.K) := by
  intro pins s σ H x v vl vu lo hi sl Q I rx hs pl pu h
  unfold rSlc at h
  split at h
  · exact sl_str pins s σ H _ v vl vu lo hi sl Q I rx hs pl pu ⟨_, rfl, h⟩
  · exact sl_list pins s σ H _ v vl vu lo hi sl Q I rx hs pl pu h
  · exact h.elim
/-- o[i] = v -/
def rSet : TSet := fun o i v H Q => (∃ p xs j k, o = .ref p ∧ i = .int j ∧ H p = some (.lst xs) ∧ ixN xs.length j = some k ∧ Q (upd H p (.lst (xs.set k v)))) ∨
  ∃ p H', o = .ref p ∧ DPut H p i v H' ∧ Q H'
theorem set_ok (hu : X.A.units + 1 < cLine) : PSet X rSet := by
  intro pins s σ H o i v ov iv u Q I ro ri rv h
  rcases h with ⟨p, xs, j, k, rfl, rfl, hp, hk, q⟩ | ⟨p, H', rfl, g, q⟩
  · exact set_list pins s σ H _ _ _ ov iv u Q I ro ri rv ⟨p, xs, j, k, rfl, rfl, hp, hk, q⟩
  · obtain rfl : ov = Value.ref p := ro
    exact d_setItem hu I g ri rv fun s4 I4 => ⟨H', I4, q⟩
/-! ### data and their text -/
/-- a dict of scalars -/
def flatD : V → Option PyData
  | .non => some .none
  | .bl b => some (.bool b)
  | .int i => some (.int i)
  | .str x => some (.str x)
  | _ => none
def keyD : Key → PyData
  | .inl i => .int i
  | .inr x => .str x
def flatKv : List (Key × V) → Option (List (PyData × PyData))
  | [] => some []
  | (k, v) :: r => match flatD v, flatKv r with
    | some d, some ds => some ((keyD k, d) :: ds)
    | _, _ => none
theorem flatD_reads {h : Heap} {v : V} {u : Value} {d : PyData} (e : flatD v = some d) (r : RelV v u) : Reads h u d [] := by
  cases v with
  | non => cases e; obtain rfl : u = _ := r; exact .none
  | bl b => cases e; obtain rfl : u = _ := r; exact .bool b
  | int i => cases e; obtain ⟨t, rfl⟩ := r; exact .int i t
  | str x => cases e; obtain ⟨t, rfl⟩ := r; exact .str x t
  | byt b => cases e
  | flt b => cases e
  | ref a => cases e
  | ty n => cases e
theorem keyD_reads {h : Heap} {k : Key} {u : Value} (e : keyIs k u = true) : Reads h u (keyD k) [] := by
  rcases keyIs_shape e with ⟨i, t, rfl, rfl⟩ | ⟨x, t, rfl, rfl⟩
  · exact .int i t
  · exact .str x t
theorem flatKv_reads {P : Program} {w : World} {h : Heap} : ∀ {kvs : List (Key × V)} {vs : List (Key × Value)} {es : List DictEntry} {ds : List (PyData × PyData)}, flatKv kvs = some ds → KV kvs vs → Pairs (mixKind P w) es vs →
    ReadsAll h (es.map (·.key)) (ds.map (·.1)) [] ∧ ReadsAll h (es.map (·.val)) (ds.map (·.2)) []
  | [], _, _, _, e, .nil, .nil => by cases e; exact ⟨.nil, .nil⟩
  | (k, v) :: r, _, _, _, e, .cons r1 r2, .cons p1 p2 p3 => by
    unfold flatKv at e
    split at e
    · rename_i d ds e1 e2
      cases e
      obtain ⟨a1, a2⟩ := flatKv_reads (P := P) (w := w) (h := h) e2 r2 p3
      have ek : k = _ := r1.1
      subst ek
      have b1 := ReadsAll.cons (keyD_reads (h := h) p1) a1
      have rv := r1.2
      rw [← p2] at rv
      have b2 := ReadsAll.cons (flatD_reads (h := h) e1 rv) a2
      exact ⟨b1, b2⟩
    · cases e
def rRepr (K : PySem.W.Frag) : V → Hp → VK → Prop := fun x H Q =>
  (∃ d, Dp K H x d ∧ d.showable = true ∧ d.depth ≤ 60 ∧ d.shown.length ≤ sizeLine ∧ Q (.str d.shown) H) ∨
  (∃ a kvs ds, x = .ref a ∧ H a = some (.dK kvs) ∧ flatKv kvs = some ds ∧ (PyData.dict ds).showable = true ∧ (PyData.dict ds).depth ≤ 60 ∧ (PyData.dict ds).shown.length ≤ sizeLine ∧ Q (.str (PyData.dict ds).shown) H)
theorem dp_noDict {K : PySem.W.Frag} {H : Hp} : ∀ (d : PyData) (v : V), Dp K H v d → d.hasDict = false
  | .none, _, _ => by simp only [PyData.hasDict]
  | .bool _, _, _ => by simp only [PyData.hasDict]
  | .int _, _, _ => by simp only [PyData.hasDict]
  | .str _, _, _ => by simp only [PyData.hasDict]
  | .list ds, _, h => by
    cases h with
    | lst _ ha => simp only [PyData.hasDict]; exact go ds _ ha
  | .tuple ds, _, h => by
    cases h with
    | tup _ ha => simp only [PyData.hasDict]; exact go ds _ ha
  | .dict _, _, h => by cases h
where
  go : ∀ (ds : List PyData) (vs : List V), DpAll K H vs ds → PyData.hasDictAll ds = false
  | [], _, _ => by simp only [PyData.hasDictAll]
  | d :: ds, _, h => by
    cases h with
    | cons h1 h2 =>
      simp only [PyData.hasDictAll, Bool.or_eq_false_iff]
      exact ⟨dp_noDict d _ h1, go ds _ h2⟩
theorem repr_ok (hg : X.A.guards = some []) (hu : X.A.units + 64 < cLine) : CallR X (.builtin "repr") (fun xs H Q => ∃ x, xs = [x] ∧ rRepr X.K x H Q) := by
  intro pins s σ H xs us Q I r h
  obtain ⟨x, rfl, h⟩ := h
  obtain ⟨u, rfl, ru⟩ := vals1 r
  rcases h with ⟨d, hd, hs, hp, hz, q⟩ | ⟨a, kvs, ds, rfl, ha, hf, hs, hp, hz, q⟩
  · obtain ⟨as, rd⟩ := Dp.reads I d x u hd ru
    cases rd with
    | none => exact PySem.P.repr_of_none ⟨.str _, H, I.tok _, ⟨_, rfl⟩, by simpa only [PyData.shown] using q⟩
    | bool b => exact PySem.P.repr_of_bool ⟨.str _, H, I.tok _, ⟨_, rfl⟩, by simpa only [PyData.shown] using q⟩
    | int i t => exact PySem.P.repr_of_int (by simpa [PyData.showable] using hs) ⟨.str _, H, I.tok _, ⟨_, rfl⟩, by simpa only [PyData.shown] using q⟩
    | str z t => exact PySem.P.repr_of_str ⟨.str _, H, I.tok _, ⟨_, rfl⟩, by simpa only [PyData.shown] using q⟩ (by simpa only [PyData.shown] using hz)
    | list h1 h2 h3 h4 => exact repr_of_reads' (.list h1 h2 h3 h4) hs (PyData.noDict_hsm (dp_noDict _ _ hd)) hg (by omega) (fun _ _ e => e) (fun h' tk tk' hk => ⟨.str _, H, I.kept hk, ⟨_, rfl⟩, q⟩) hz
    | tuple h1 h2 h3 h4 => exact repr_of_reads' (.tuple h1 h2 h3 h4) hs (PyData.noDict_hsm (dp_noDict _ _ hd)) hg (by omega) (fun _ _ e => e) (fun h' tk tk' hk => ⟨.str _, H, I.kept hk, ⟨_, rfl⟩, q⟩) hz
    | dict h1 h2 h3 h4 h5 => cases hd
  · obtain rfl : u = Value.ref a := ru
    obtain ⟨_, na, vs, kv, o, es, ep, ho, hx, hdt, _, prs, _⟩ := I.hok a _ ha
    obtain ⟨k1, k2⟩ := flatKv_reads (h := s.heap) hf kv prs
    have rd : Reads s.heap (.ref a) (.dict ds) (a :: [] ++ []) := .dict ho hx.1 hdt k1 k2
    refine repr_of_reads' rd hs (fun _ hm => ?_) hg (by omega) (fun _ _ e => e) (fun h' tk tk' hk => ⟨.str _, H, I.kept hk, ⟨_, rfl⟩, q⟩) hz
    have e : sysModules = a := by simpa using hm
    rw [← e] at na
    simp at na
end
end CW

namespace CW
open PySem PySem.Spec PyProof.Rows L2
/-! ## 4. Built-ins by name -/
inductive Ty where | int | bool | str | list | tuple | dict
  deriving DecidableEq
def Ty.nm : Ty → String
  | .int => "int" | .bool => "bool" | .str => "str" | .list => "list" | .tuple => "tuple" | .dict => "dict"
/-- the kind of a thing at an address -/
def TyR (K : PySem.W.Frag) (H : Hp) (p : Addr) (t : Ty) : Prop := TyX K H (.ref p) (.type t.nm)
def inTys (k : V) : List Ty → Bool
  | [] => false
  | t :: r => (match k, t with | .int _, .int => true | .bl _, .int => true | .bl _, .bool => true | .str _, .str => true | _, _ => false) || inTys k r
def inTyR (k : Ty) : List Ty → Bool
  | [] => false
  | t :: r => decide (k = t) || inTyR k r
def rIsA (K : PySem.W.Frag) (ts : List Ty) : V → Hp → VK → Prop := fun x H Q => match x with
  | .ref p => ∃ t, (t = .list ∨ t = .tuple ∨ t = .dict) ∧ TyR K H p t ∧ Q (.bl (inTyR t ts)) H
  | .non => Q (.bl (inTys .non ts)) H
  | .bl b => Q (.bl (inTys (.bl b) ts)) H
  | .int i => Q (.bl (inTys (.int i) ts)) H
  | .str z => Q (.bl (inTys (.str z) ts)) H
  | _ => False
inductive Bi where | len | abs | max | min | int | str | repr | all | any | divmod | list | tuple | sum | sorted
  deriving DecidableEq
def Bi.val : Bi → Value
  | .len => .builtin "len" | .abs => .builtin "abs" | .max => .builtin "max" | .min => .builtin "min" | .int => .type "int" | .str => .type "str" | .repr => .builtin "repr"
  | .all => .builtin "all" | .any => .builtin "any" | .divmod => .builtin "divmod" | .list => .type "list" | .tuple => .type "tuple" | .sum => .builtin "sum" | .sorted => .builtin "sorted"
def rBi (K : PySem.W.Frag) (b : Bi) (xs : List V) (H : Hp) (Q : VK) : Prop := match b, xs with
  | .len, [.str z] => z.length ≤ sizeLine ∧ Q (.int z.length) H
  | .len, [.ref p] => (∃ ys, SqL K H p ys ∧ Q (.int ys.length) H) ∨ (∃ ys, SqT K H p ys ∧ Q (.int ys.length) H) ∨ ∃ kvs, H p = some (.dK kvs) ∧ Q (.int kvs.length) H
  | .abs, [.int i] => Q (.int (if i < 0 then -i else i)) H
  | .max, [.int i, .int j] => Q (.int (if j > i then j else i)) H
  | .min, [.int i, .int j] => Q (.int (if j < i then j else i)) H
  | .int, [.int i] => Q (.int i) H
  | .int, [.bl k] => Q (.int (if k then 1 else 0)) H
  | .int, [.str a] => ∃ n, PySem.intText? a = some n ∧ a.length ≤ 640 ∧ Q (.int n) H
  | .str, [.int i] => i.natAbs.log2 < 1920 ∧ Q (.str (toString i)) H
  | .str, [.str a] => Q (.str a) H
  | .repr, [x] => rRepr K x H Q
  | .all, [.ref a] => ∃ bs : List Bool, SqL K H a (bs.map V.bl) ∧ Q (.bl (bs.all id)) H
  | .any, [.ref a] => ∃ bs : List Bool, SqL K H a (bs.map V.bl) ∧ Q (.bl (bs.any id)) H
  | .divmod, [.int i, .int j] => CDiv i j ∧ ∀ p, H p = none → Q (.ref p) (upd H p (.tup [.int (i / j), .int (i % j)]))
  | .list, [.ref p] => ∃ ys, (SqL K H p ys ∨ SqT K H p ys) ∧ ∀ l, H l = none → Q (.ref l) (upd H l (.lst ys))
  | .tuple, [.ref p] => ∃ ys, (SqL K H p ys ∧ ∀ l, H l = none → Q (.ref l) (upd H l (.tup ys))) ∨ (SqT K H p ys ∧ Q (.ref p) H)
  | .sum, [.ref p] => ∃ ns : List Int, SqL K H p (ns.map V.int) ∧ Q (.int ns.sum) H
  | .sorted, [.ref p] => rSortedS K [.ref p] H Q ∨ rSorted K [.ref p] H Q
  | _, _ => False
section
variable {X : Cx}
theorem len_dict : CallR X (.builtin "len") (fun xs H Q => ∃ d kvs, xs = [.ref d] ∧ H d = some (.dK kvs) ∧ Q (.int kvs.length) H) := call_lenD
theorem bi_ok (hc : X.calm = true) (hg : X.A.guards = some []) (hu : X.A.units + 65 < cLine) (b : Bi) : CallR X b.val (rBi X.K b) := by
  intro pins s σ H xs us Q I r h
  have hu4 : X.A.units + 64 < cLine := by omega
  unfold rBi at h
  split at h
  · exact call_len pins s σ H _ us Q I r ⟨_, _, rfl, ⟨h.1, rfl⟩, h.2⟩
  · rcases h with ⟨ys, h1, h2⟩ | ⟨ys, h1, h2⟩ | ⟨kvs, h1, h2⟩
    · exact call_len pins s σ H _ us Q I r ⟨_, _, rfl, .inl ⟨_, h1, rfl⟩, h2⟩
    · exact call_len pins s σ H _ us Q I r ⟨_, _, rfl, .inr ⟨_, h1, rfl⟩, h2⟩
    · exact len_dict pins s σ H _ us Q I r ⟨_, _, rfl, h1, h2⟩
  · exact call_abs pins s σ H _ us Q I r ⟨_, rfl, h⟩
  · exact call_max2 hc pins s σ H _ us Q I r ⟨_, _, rfl, h⟩
  · exact call_min2 hc pins s σ H _ us Q I r ⟨_, _, rfl, h⟩
  · exact call_int1 pins s σ H _ us Q I r (.inl ⟨_, rfl, h⟩)
  · exact call_int1 pins s σ H _ us Q I r (.inr ⟨_, rfl, h⟩)
  · obtain ⟨n, h1, h2, h3⟩ := h
    exact call_int_str pins s σ H _ us Q I r ⟨_, n, rfl, h1, h2, h3⟩
  · exact call_str_int pins s σ H _ us Q I r ⟨_, rfl, h.1, h.2⟩
  · exact SkE.call_str_str pins s σ H _ us Q I r ⟨_, rfl, h⟩
  · exact repr_ok hg hu4 pins s σ H _ us Q I r ⟨_, rfl, h⟩
  · obtain ⟨bs, h1, h2⟩ := h
    exact cr_all hc pins s σ H _ us Q I r ⟨_, bs, rfl, h1, h2⟩
  · obtain ⟨bs, h1, h2⟩ := h
    exact cr_any hc pins s σ H _ us Q I r ⟨_, bs, rfl, h1, h2⟩
  · exact call_divmod pins s σ H _ us Q I r ⟨_, _, rfl, h.1, h.2⟩
  · obtain ⟨ys, h1, h2⟩ := h
    exact call_list_of pins s σ H _ us Q I r ⟨_, ys, rfl, h1, h2⟩
  · obtain ⟨ys, h1⟩ := h
    exact call_tuple_of pins s σ H _ us Q I r ⟨_, ys, rfl, h1⟩
  · obtain ⟨ns, h1, h2⟩ := h
    exact cr_sum hc pins s σ H _ us Q I r ⟨_, ns, rfl, h1, h2⟩
  · rcases h with h | h
    · exact cr_sortedS pins s σ H _ us Q I r h
    · exact cr_sorted pins s σ H _ us Q I r h
  · exact h.elim
end
/-! ### isinstance -/
section
variable {X : Cx}
theorem kit1 {K : PySem.W.Frag} : ∀ t : Ty, PySem.W.kitOne K (.type "NoneType") (.type t.nm) = some false
  | .int => kit_ty (by decide +kernel) | .bool => kit_ty (by decide +kernel) | .str => kit_ty (by decide +kernel) | .list => kit_ty (by decide +kernel) | .tuple => kit_ty (by decide +kernel) | .dict => kit_ty (by decide +kernel)
theorem kit2 {K : PySem.W.Frag} : ∀ t : Ty, PySem.W.kitOne K (.type "int") (.type t.nm) = some (decide (t = .int))
  | .int => kit_ty (by decide +kernel) | .bool => kit_ty (by decide +kernel) | .str => kit_ty (by decide +kernel) | .list => kit_ty (by decide +kernel) | .tuple => kit_ty (by decide +kernel) | .dict => kit_ty (by decide +kernel)
theorem kit3 {K : PySem.W.Frag} : ∀ t : Ty, PySem.W.kitOne K (.type "bool") (.type t.nm) = some (decide (t = .int) || decide (t = .bool))
  | .int => kit_ty (by decide +kernel) | .bool => kit_ty (by decide +kernel) | .str => kit_ty (by decide +kernel) | .list => kit_ty (by decide +kernel) | .tuple => kit_ty (by decide +kernel) | .dict => kit_ty (by decide +kernel)
theorem kit4 {K : PySem.W.Frag} : ∀ t : Ty, PySem.W.kitOne K (.type "str") (.type t.nm) = some (decide (t = .str))
  | .int => kit_ty (by decide +kernel) | .bool => kit_ty (by decide +kernel) | .str => kit_ty (by decide +kernel) | .list => kit_ty (by decide +kernel) | .tuple => kit_ty (by decide +kernel) | .dict => kit_ty (by decide +kernel)
theorem kit5 {K : PySem.W.Frag} : ∀ t : Ty, PySem.W.kitOne K (.type "list") (.type t.nm) = some (decide (Ty.list = t))
  | .int => kit_ty (by decide +kernel) | .bool => kit_ty (by decide +kernel) | .str => kit_ty (by decide +kernel) | .list => kit_ty (by decide +kernel) | .tuple => kit_ty (by decide +kernel) | .dict => kit_ty (by decide +kernel)
theorem kit6 {K : PySem.W.Frag} : ∀ t : Ty, PySem.W.kitOne K (.type "tuple") (.type t.nm) = some (decide (Ty.tuple = t))
  | .int => kit_ty (by decide +kernel) | .bool => kit_ty (by decide +kernel) | .str => kit_ty (by decide +kernel) | .list => kit_ty (by decide +kernel) | .tuple => kit_ty (by decide +kernel) | .dict => kit_ty (by decide +kernel)
theorem kit7 {K : PySem.W.Frag} : ∀ t : Ty, PySem.W.kitOne K (.type "dict") (.type t.nm) = some (decide (Ty.dict = t))
  | .int => kit_ty (by decide +kernel) | .bool => kit_ty (by decide +kernel) | .str => kit_ty (by decide +kernel) | .list => kit_ty (by decide +kernel) | .tuple => kit_ty (by decide +kernel) | .dict => kit_ty (by decide +kernel)
/-- kinds by name -/
theorem isA_of {K : PySem.W.Frag} {H : Hp} {x : V} {ts : List Ty} {Q : VK} (h : rIsA K ts x H Q) : ∃ (T : String) (f : Ty → Bool), TyX K H x (.type T) ∧ (∀ t, PySem.W.kitOne K (.type T) (.type t.nm) = some (f t)) ∧ Q (.bl (ts.any f)) H := by
  have go : ∀ (v : V) (f : Ty → Bool), (∀ t, (match v, t with | .int _, .int => true | .bl _, .int => true | .bl _, .bool => true | .str _, .str => true | _, _ => false) = f t) → ∀ ts, inTys v ts = ts.any f := by
    intro v f hf ts
    induction ts with
    | nil => rfl
    | cons t r ih => unfold inTys; rw [List.any_cons, ih, hf t]
  cases x with
  | non => exact ⟨"NoneType", fun _ => false, .base .non, kit1, by rw [← go .non (fun _ => false) (fun t => by cases t <;> rfl) ts]; exact h⟩
  | bl b => exact ⟨"bool", _, .base (.bl b), kit3, by rw [← go (.bl b) _ (fun t => by cases t <;> rfl) ts]; exact h⟩
  | int i => exact ⟨"int", _, .base (.int i), kit2, by rw [← go (.int i) _ (fun t => by cases t <;> rfl) ts]; exact h⟩
  | str z => exact ⟨"str", _, .base (.str z), kit4, by rw [← go (.str z) _ (fun t => by cases t <;> rfl) ts]; exact h⟩
  | byt b => exact h.elim
  | flt b => exact h.elim
  | ty n => exact h.elim
  | ref p =>
    have go2 : ∀ (k : Ty) ts, inTyR k ts = ts.any fun t => decide (k = t) := by
      intro k ts
      induction ts with
      | nil => rfl
      | cons t r ih => unfold inTyR; rw [List.any_cons, ih]
    obtain ⟨t, ht, hx, q⟩ := h
    rw [go2] at q
    rcases ht with rfl | rfl | rfl
    · exact ⟨"list", _, hx, kit5, q⟩
    · exact ⟨"tuple", _, hx, kit6, q⟩
    · exact ⟨"dict", _, hx, kit7, q⟩
theorem kit_many {K : PySem.W.Frag} {T : String} {f : Ty → Bool} (h : ∀ t : Ty, PySem.W.kitOne K (.type T) (.type t.nm) = some (f t)) : ∀ ts : List Ty, PySem.W.kitAny K (.type T) (ts.map fun t => .type t.nm) = some (ts.any f)
  | [] => rfl
  | t :: r => kitAny_cons (h t) (fun _ => by rw [kit_many h r]; rw [List.any_cons]; rename_i e; rw [e]; rfl) (fun e => by rw [List.any_cons, e]; rfl)
end
end CW

namespace CW
open PySem PySem.Spec PyProof.Rows L2
/-! ## 5. The small language and its reading -/
/-- where a parameter's value comes from: the i-th written argument, the i-th keyword's, a default -/
inductive Ar where | p (i : Nat) | q (i : Nat) | d (v : V)
/-- methods of built-in kinds -/
inductive Mt where | append | join | startswith | extend | pop | clear
  deriving DecidableEq
inductive E where
  | c (v : V)
  | v (i : Nat)
  | bin (op : Operator) (a b : E)
  | un (op : UnaryOp) (a : E)
  | not (a : E)
  | and (a b : E)
  | or (a b : E)
  | ite (t a b : E)
  | cmp (op : CmpOp) (a b : E)
  | cmp2 (op op' : CmpOp) (a b c : E)
  | nil
  | cons (a r : E)
  | lst (as : E)
  | tup (as : E)
  | dct (ks vs : E)
  | sub (a i : E)
  | slc (a l h : E)
  | call (sp : Sp) (as ks : E) (ar : List Ar)
  | bi (b : Bi) (as : E)
  | bid (b : Bi) (l : E)
  | mt (m : Mt) (o as : E)
  | joind (o l : E)
  | isA (a : E) (ts : List Ty)
  | inT (neg : Bool) (a es : E)
  | lc (e t it cs : E) (own : List Nat)
  | rng1 (as : E)
  | rng2 (as : E)
  | rng3 (as : E)
  | enum (a : E)
  | rev (a : E)
  | it (a : E)
def lenE : E → Nat
  | .cons _ r => lenE r + 1
  | _ => 0
def dropA (H : Hp) (D : Addr) : Hp := fun b => if b = D then none else H b
/-- no exception -/
abbrev W0 : WX := fun _ _ _ _ => False
def arr (ar : List Ar) (vs zs : List V) : List V := ar.map fun
  | .p i => vs.getD i .non
  | .q i => zs.getD i .non
  | .d v => v
def rMt (K : PySem.W.Frag) (m : Mt) (x : V) (xs : List V) (H : Hp) (Q : VK) : Prop := match m, x, xs with
  | .append, .ref l, [y] => ∃ ys, H l = some (.lst ys) ∧ ys.length < sizeLine ∧ Q .non (upd H l (.lst (ys ++ [y])))
  | .join, .str a, [.ref p] => ∃ ys : List Str, (SqL K H p (ys.map V.str) ∨ SqT K H p (ys.map V.str)) ∧ (ys.map (·.length)).sum + ys.length * a.length ≤ 16777216 ∧ Q (.str (Txt.join a ys)) H
  | .startswith, .str a, [.str b] => Q (.bl (Txt.startswith a b)) H
  | .extend, .ref l, [.ref b] => ∃ xs zs, H l = some (.lst xs) ∧ H b = some (.lst zs) ∧ xs.length + zs.length ≤ sizeLine ∧ Q .non (upd H l (.lst (xs ++ zs)))
  | .pop, .ref l, [] => ∃ xs y, H l = some (.lst xs) ∧ xs[xs.length - 1]? = some y ∧ Q y (upd H l (.lst xs.dropLast))
  | .pop, .ref l, [.int i] => ∃ xs k y, H l = some (.lst xs) ∧ -(2 ^ 63) ≤ i ∧ i < 2 ^ 63 ∧ seqIndex? i xs.length = some k ∧ xs[k]? = some y ∧ Q y (upd H l (.lst (xs.eraseIdx k)))
  | .clear, .ref l, [] => ∃ xs, H l = some (.lst xs) ∧ Q .non (upd H l (.lst []))
  | _, _, _ => False
def mtTy (K : PySem.W.Frag) (m : Mt) (x : V) (H : Hp) : Prop := match m, x with
  | .append, .ref l => ∃ ys, H l = some (.lst ys)
  | .join, .str _ => True
  | .startswith, .str _ => True
  | .extend, .ref l => ∃ ys, H l = some (.lst ys)
  | .pop, .ref l => ∃ ys, H l = some (.lst ys)
  | .clear, .ref l => ∃ ys, H l = some (.lst ys)
  | _, _ => False
/-- what is walked, by its value -/
def iVal (K : PySem.W.Frag) (x : V) (H : Hp) (R : It → Hp → Prop) : Prop := match x with
  | .str z => R (Its z) H
  | .ref a => ((∃ xs, SqL K H a xs) ∧ R (Itl K a) H) ∨ ((∃ xs, SqT K H a xs) ∧ R (Itt K a) H)
  | _ => False
mutual
/-- an expression's reading -/
def wE (K : PySem.W.Frag) (W : WX) : E → TE
  | .c v => fun _ H Q => Q v H
  | .v i => fun σ H Q => match σ[i]? with
    | some (some x) => Q x H
    | _ => False
  | .bin op a b => fun σ H Q => wE K W a σ H fun x H1 => wE K W b σ H1 fun y H2 => rBin K op x y H2 Q
  | .un op a => fun σ H Q => wE K W a σ H fun x H1 => rUn op x H1 Q
  | .not a => fun σ H Q => wE K W a σ H fun x H1 => match x with
    | .bl k => Q (.bl (!k)) H1
    | _ => False
  | .and a b => fun σ H Q => wE K W a σ H fun x H1 => match x with
    | .bl k => if k = true then wE K W b σ H1 Q else Q (.bl false) H1
    | _ => False
  | .or a b => fun σ H Q => wE K W a σ H fun x H1 => match x with
    | .bl k => if k = true then Q (.bl true) H1 else wE K W b σ H1 Q
    | _ => False
  | .ite t a b => fun σ H Q => wT K W t σ H fun k H1 => if k = true then wE K W a σ H1 Q else wE K W b σ H1 Q
  | .cmp op a b => fun σ H Q => wE K W a σ H fun x H1 => wE K W b σ H1 fun y H2 => rCmp K op x y H2 Q
  | .cmp2 op op' a b c => fun σ H Q => wE K W a σ H fun x H1 => wE K W b σ H1 fun y H2 => rCmp K op x y H2 fun z H3 => match z with
    | .bl k => if k = true then wE K W c σ H3 fun u H4 => rCmp K op' y u H4 Q else Q (.bl false) H3
    | _ => False
  | .lst as => fun σ H Q => wA K W as σ H fun xs H1 => xs.length ≤ sizeLine ∧ ∀ p, H1 p = none → Q (.ref p) (upd H1 p (.lst xs))
  | .tup as => fun σ H Q => wA K W as σ H fun xs H1 => xs.length ≤ sizeLine ∧ ∀ p, H1 p = none → Q (.ref p) (upd H1 p (.tup xs))
  | .dct ks vs => fun σ H Q => ∀ p, H p = none → tPairs ((wL K W ks).zip (wL K W vs)) σ (upd H p (.dK [])) fun ps H2 => H2 p = some (.dK []) ∧ ∃ kvs : List (Key × V), ps = kvs.map (fun kv => (kV kv.1, kv.2)) ∧ kvs.length ≤ 15 ∧ Q (.ref p) (upd H2 p (.dK (mergeK [] kvs)))
  | .sub a i => fun σ H Q => wE K W a σ H fun x H1 => wE K W i σ H1 fun y H2 => rSub K x y H2 Q
  | .slc a l h => fun σ H Q => wE K W a σ H fun x H1 => wO K W l σ H1 fun lo H2 => wO K W h σ H2 fun hi H3 => rSlc K x lo hi H3 Q
  | .call sp as ks ar => fun σ H Q => wA K W as σ H fun vs H1 => wA K W ks σ H1 fun zs H2 => sp (arr ar vs zs) H2 Q fun cls d H' => W cls d σ H'
  | .bi b as => fun σ H Q => wA K W as σ H fun xs H1 => rBi K b xs H1 Q
  | .bid b l => fun σ H Q => wE K W l σ H fun x H1 => ∃ D acc, x = .ref D ∧ H1 D = some (.lst acc) ∧ rBi K b [.ref D] H1 fun r H2 => H2 D = some (.lst acc) ∧ Q r (dropA H2 D)
  | .mt m o as => fun σ H Q => wE K W o σ H fun x H1 => mtTy K m x H1 ∧ wA K W as σ H1 fun xs H2 => rMt K m x xs H2 Q
  | .joind o l => fun σ H Q => wE K W o σ H fun x H1 => (∃ a, x = .str a) ∧ wE K W l σ H1 fun y H2 => ∃ D acc, y = .ref D ∧ H2 D = some (.lst acc) ∧ rMt K .join x [.ref D] H2 fun r H3 => H3 D = some (.lst acc) ∧ Q r (dropA H3 D)
  | .rev a => fun σ H Q => wE K W a σ H fun x H1 => ∃ p xs, x = .ref p ∧ SqL K H1 p xs ∧ ∀ q, H1 q = none → Q (.ref q) (upd H1 q (.lst xs.reverse))
  | .isA a ts => fun σ H Q => wE K W a σ H fun x H1 => rIsA K ts x H1 Q
  | .inT neg a es => fun σ H Q => wE K W a σ H fun x H1 => wA K W es σ H1 fun ys H2 => flatV x = true ∧ ys.all flatV = true ∧ ys.length ≤ sizeLine ∧ Q (.bl (if neg then !inV x ys else inV x ys)) H2
  | .lc e t it cs own => fun σ H Q => wI K W it σ H fun J H1 => ∀ D, H1 D = none → ∃ Wn : Nat → Nat → Hp → Prop, (∃ m, Wn 0 m (upd H1 D (.lst []))) ∧ ∀ i m H, Wn i m H →
      (J.stop i H ∧ Q (.ref D) H) ∨ (J.go i H ∧ ∃ Nx : Hp → Prop, (∀ H', Nx H' → ∃ m', m' < m ∧ Wn (i + 1) m' H') ∧ ∀ x H', J.yld i H x H' → wG K W0 t x (wipe σ own) H' fun σ2 H2 => wipe σ2 own = wipe σ own ∧ wC K W0 cs σ2 H2 fun b H3 =>
        if b = true then wE K W0 e σ2 H3 fun y H4 => ∃ acc, H4 D = some (.lst acc) ∧ acc.length < sizeLine ∧ Nx (upd H4 D (.lst (acc ++ [y]))) else Nx H3)
  | _ => fun _ _ _ => False
/-- a test's reading -/
def wT (K : PySem.W.Frag) (W : WX) : E → TT
  | .not a => fun σ H Q => wT K W a σ H fun k H1 => Q (!k) H1
  | .and a b => fun σ H Q => wT K W a σ H fun k H1 => if k = true then wT K W b σ H1 Q else Q false H1
  | .or a b => fun σ H Q => wT K W a σ H fun k H1 => if k = true then Q true H1 else wT K W b σ H1 Q
  | .ite _ _ _ => fun _ _ _ => False
  | .cmp op a b => fun σ H Q => wE K W a σ H fun x H1 => wE K W b σ H1 fun y H2 => rCmp K op x y H2 fun z H3 => match z with
    | .bl k => Q k H3
    | _ => False
  | .cmp2 op op' a b c => fun σ H Q => wE K W a σ H fun x H1 => wE K W b σ H1 fun y H2 => rCmp K op x y H2 fun z H3 => match z with
    | .bl k => if k = true then wE K W c σ H3 fun u H4 => rCmp K op' y u H4 fun z2 H5 => (match z2 with | .bl k2 => Q k2 H5 | _ => False) else Q false H3
    | _ => False
  | .inT neg a es => fun σ H Q => wE K W a σ H fun x H1 => wA K W es σ H1 fun ys H2 => flatV x = true ∧ ys.all flatV = true ∧ ys.length ≤ sizeLine ∧ Q (if neg then !inV x ys else inV x ys) H2
  | .v i => fun σ H Q => match σ[i]? with
    | some (some x) => rTru K x H Q
    | _ => False
  | .c v => fun _ H Q => rTru K v H Q
  | .call sp as ks ar => fun σ H Q => wA K W as σ H fun vs H1 => wA K W ks σ H1 fun zs H2 => sp (arr ar vs zs) H2 (fun x H3 => rTru K x H3 Q) fun cls d H' => W cls d σ H'
  | .bi b as => fun σ H Q => wA K W as σ H fun xs H1 => rBi K b xs H1 fun x H3 => rTru K x H3 Q
  | .bid b l => fun σ H Q => wE K W l σ H fun x H1 => ∃ D acc, x = .ref D ∧ H1 D = some (.lst acc) ∧ rBi K b [.ref D] H1 fun r H2 => H2 D = some (.lst acc) ∧ rTru K r (dropA H2 D) Q
  | .mt m o as => fun σ H Q => wE K W o σ H fun x H1 => mtTy K m x H1 ∧ wA K W as σ H1 fun xs H2 => rMt K m x xs H2 fun r H3 => rTru K r H3 Q
  | .isA a ts => fun σ H Q => wE K W a σ H fun x H1 => rIsA K ts x H1 fun r H2 => rTru K r H2 Q
  | .sub a i => fun σ H Q => wE K W a σ H fun x H1 => wE K W i σ H1 fun y H2 => rSub K x y H2 fun r H3 => rTru K r H3 Q
  | _ => fun _ _ _ => False
/-- arguments from the left -/
def wA (K : PySem.W.Frag) (W : WX) : E → TA
  | .nil => fun _ H Q => Q [] H
  | .cons a r => fun σ H Q => wE K W a σ H fun x H1 => wA K W r σ H1 fun xs H2 => Q (x :: xs) H2
  | _ => fun _ _ _ => False
def wL (K : PySem.W.Frag) (W : WX) : E → List TE
  | .cons a r => wE K W a :: wL K W r
  | _ => []
/-- an end of a slice -/
def wO (K : PySem.W.Frag) (W : WX) : E → TO
  | .nil => fun _ H Q => Q none H
  | .cons a _ => fun σ H Q => wE K W a σ H fun x H1 => match x with
    | .int i => Q (some i) H1
    | _ => False
  | _ => fun _ _ _ => False
/-- the tests of a comprehension -/
def wC (K : PySem.W.Frag) (W : WX) : E → TT
  | .nil => fun _ H Q => Q true H
  | .cons a _ => wT K W a
  | _ => fun _ _ _ => False
/-- what is walked -/
def wI (K : PySem.W.Frag) (W : WX) : E → TI
  | .rng1 as => iRng1 (wA K W as)
  | .rng2 as => iRng2 (wA K W as)
  | .rng3 as => iRng3 (wA K W as)
  | .it a => fun σ H R => wE K W a σ H fun x H1 => iVal K x H1 R
  | .enum a => fun σ H R => wE K W a σ H fun x H1 => ∃ l xs, [x] = [V.ref l] ∧ SqL K H1 l xs ∧ R (Ite K l) H1
  | .v i => fun σ H R => match σ[i]? with
    | some (some x) => iVal K x H R
    | _ => False
  | .c v => fun _ H R => iVal K v H R
  | .lst as => fun σ H R => wA K W as σ H fun xs H1 => xs.length ≤ sizeLine ∧ ∀ p, H1 p = none → iVal K (.ref p) (upd H1 p (.lst xs)) R
  | .tup as => fun σ H R => wA K W as σ H fun xs H1 => xs.length ≤ sizeLine ∧ ∀ p, H1 p = none → iVal K (.ref p) (upd H1 p (.tup xs)) R
  | .call sp as ks ar => fun σ H R => wA K W as σ H fun vs H1 => wA K W ks σ H1 fun zs H2 => sp (arr ar vs zs) H2 (fun x H3 => iVal K x H3 R) fun cls d H' => W cls d σ H'
  | _ => fun _ _ _ => False
/-- a target -/
def wG (K : PySem.W.Frag) (W : WX) : E → TG
  | .v i => fun x σ H Q => Q (σ.set i (some x)) H
  | .sub o i => fun x σ H Q => wE K W o σ H fun p H1 => wE K W i σ H1 fun y H2 => rSet p y x H2 fun H3 => Q σ H3
  | .tup ts => fun x σ H Q => ∃ a xs, x = .ref a ∧ SqT K H a xs ∧ xs.length = lenE ts ∧ wGs K W ts xs σ H Q
  | _ => fun _ _ _ _ => False
def wGs (K : PySem.W.Frag) (W : WX) : E → TGs
  | .nil => fun vs σ H Q => vs = [] ∧ Q σ H
  | .cons t r => fun vs σ H Q => ∃ x xs, vs = x :: xs ∧ wG K W t x σ H fun σ1 H1 => wGs K W r xs σ1 H1 Q
  | _ => fun _ _ _ _ => False
end
/-- statements -/
inductive S where
  | nil
  | cons (a r : S)
  | ex (e : E)
  | ret (e : E)
  | retN
  | set (t e : E)
  | par (is : List Nat) (es : E)
  | ite (c : E) (a b : S)
  | for_ (t it : E) (b : S)
  | while_ (c : E) (b : S)
  | brk
  | cont
  | pass
  | bad
def parQ (is : List Nat) (vs : List V) (σ : L2.St) (H : Hp) (Q : L2.St → Hp → Prop) : Prop := match is with
  | [i, j] => ∃ v w, vs = [v, w] ∧ Q ((σ.set i (some v)).set j (some w)) H
  | [i, j, l] => ∃ u v w, vs = [u, v, w] ∧ Q (((σ.set i (some u)).set j (some v)).set l (some w)) H
  | _ => False
def wS (K : PySem.W.Frag) (W : WX) : S → TS
  | .nil => fun D σ H => D.nx σ H
  | .cons a r => fun D σ H => wS K W a { D with nx := wS K W r D } σ H
  | .ex e => fun D σ H => wE K W e σ H fun _ H1 => D.nx σ H1
  | .ret e => fun D σ H => wE K W e σ H D.rt
  | .retN => fun D _ H => D.rt .non H
  | .set t e => fun D σ H => wE K W e σ H fun x H1 => wG K W t x σ H1 D.nx
  | .par is es => fun D σ H => wA K W es σ H fun vs H1 => parQ is vs σ H1 D.nx
  | .ite c a b => fun D σ H => wT K W c σ H fun k H1 => if k = true then wS K W a D σ H1 else wS K W b D σ H1
  | .for_ t it b => fun D σ H => wI K W it σ H fun J H1 => ∃ Wn : Nat → Nat → L2.St → Hp → Prop, (∃ m, Wn 0 m σ H1) ∧ ∀ i m σ H, Wn i m σ H →
      (J.stop i H ∧ D.nx σ H) ∨ (J.go i H ∧ ∃ N : L2.St → Hp → Prop, (∀ σ' H', N σ' H' → ∃ m', m' < m ∧ Wn (i + 1) m' σ' H') ∧ ∀ x H', J.yld i H x H' → wG K W t x σ H' fun σ2 H2 => wS K W b { D with nx := N, ct := N, bk := D.nx } σ2 H2)
  | .while_ c b => tWhile (wT K W c) (wS K W b)
  | .brk => fun D σ H => D.bk σ H
  | .cont => fun D σ H => D.ct σ H
  | .pass => fun D σ H => D.nx σ H
  | .bad => fun _ _ _ => False
end CW

namespace CW
open PySem PySem.Spec PyProof.Rows L2
/-! ## 6. From the text to the small language -/
/-- what a name of the module is -/
inductive Gv where
  | fn (ps : List Str) (sh : List (Nat × List Str × List Ar)) (sp : Sp)
  | con (v : V)
  | bi (b : Bi)
  | ty (t : Ty) (b : Option Bi)
  | isi
  | rng
  | enum
structure Cm where
  N : List Str
  sc : Scope
  F : Str → Bool
  tb : List (Str × Gv)
def Cm.vis (m : Cm) (x : Str) : Bool := match m.sc.names.lookup x with
  | some .local => true
  | some .cell => true
  | some .free => true
  | _ => false
def Cm.glob (m : Cm) (x : Str) : Bool := match m.sc.names.lookup x with
  | some .globalImplicit => true
  | _ => false
def Cm.stor (m : Cm) (x : Str) : Bool := match m.sc.names.lookup x with
  | some .local => true
  | some .cell => m.F x
  | _ => false
def ixOf (x : Str) : List Str → Option Nat
  | [] => none
  | y :: r => if x = y then some 0 else (ixOf x r).map (· + 1)
def odd (x : Str) : Bool := decide (x = "__debug__") || decide (x = "__classdict__") || decide (x = "__name__")
def Cm.get (m : Cm) (x : Str) : Option Gv := if m.glob x && !odd x then m.tb.lookup x else none
def Cm.name (m : Cm) (x : Str) : Option E :=
  if odd x then none else if m.vis x then (ixOf x m.N).map .v else match m.get x with
    | some (.con v) => some (.c v)
    | _ => none
def mapE (f : Expr → Option E) : List Expr → Option E
  | [] => some .nil
  | e :: es => if noStar e then match f e, mapE f es with
    | some a, some r => some (.cons a r)
    | _, _ => none
    else none
def mapO (f : Expr → Option E) : List (Option Expr) → Option E
  | [] => some .nil
  | some e :: es => match f e, mapO f es with
    | some a, some r => some (.cons a r)
    | _, _ => none
  | none :: _ => none
def mapK (f : Expr → Option E) : List Keyword → Option E
  | [] => some .nil
  | ⟨some _, e, _⟩ :: es => match f e, mapK f es with
    | some a, some r => some (.cons a r)
    | _, _ => none
  | ⟨none, _, _⟩ :: _ => none
def optE (f : Expr → Option E) : Option Expr → Option E
  | none => some .nil
  | some e => match f e with
    | some a => some (.cons a .nil)
    | _ => none
def kwNames (ks : List Keyword) : List Str := ks.filterMap (·.arg)
def shapeOf (sh : List (Nat × List Str × List Ar)) (n : Nat) (ks : List Str) : Option (List Ar) := match sh with
  | [] => none
  | (k, names, ar) :: r => if k = n ∧ names = ks then some ar else shapeOf r n ks
def tyOf (m : Cm) : Expr → Option Ty
  | .Name x _ => match m.get x with
    | some (.ty t _) => some t
    | _ => none
  | _ => none
def tysOf (m : Cm) : List Expr → Option (List Ty)
  | [] => some []
  | e :: es => match tyOf m e, tysOf m es with
    | some t, some r => some (t :: r)
    | _, _ => none
def notSuper (o : Expr) : Bool := match o with
  | .Call (.Name _ _) [] [] _ => false
  | _ => true
def isTup : Expr → Bool
  | .Tuple .. => true
  | _ => false
def notSet : Expr → Bool
  | .Set .. => false
  | _ => true
def ownOf (N : List Str) (sc : Scope) : List (Str × Nat) := sc.names.filterMap fun (x, k) => match k with
  | .local => (ixOf x N).map fun i => (x, i)
  | .cell => (ixOf x N).map fun i => (x, i)
  | _ => none
def mtOf (nm : Str) : Option Mt := if nm = "append" then some .append else if nm = "join" then some .join else if nm = "startswith" then some .startswith else if nm = "extend" then some .extend else if nm = "pop" then some .pop else none
def mt0Of (nm : Str) : Option Mt := if nm = "pop" then some .pop else if nm = "clear" then some .clear else none
def Cm.loc (m : Cm) (x : Str) : Bool := match m.sc.names.lookup x with
  | some .local => true
  | _ => false
def bkOf (sc : Scope) : ScopeKind := if sc.kind.isAnnotationScope then .function else sc.kind
/-- in which way names of a tuple are stored -/
def swPure (sc : Scope) (ts vs : List Expr) : Option (Option (List Str)) :=
  if (!(ts.length == 2 || ts.length == 3) || vs.length != ts.length || bkOf sc != .function) = true then some none
  else if (vs.any fun | .Starred .. => true | _ => false) = true then some none
  else
    let names := ts.filterMap fun
      | .Name id pos => if sc.names.lookup id == some .local && pos.line == (ts.head?.map (·.pos.line)).getD 0 then some id else none
      | _ => none
    if (names.length != ts.length || names.eraseDups.length != names.length) = true then some none
    else if vs.all (foldedForSure 8) = true then some none
    else if vs.all (constantsAlone 8) = true then none
    else some (some names)
/-- a comprehension's block -/
def Cm.blk (m : Cm) (scope : Scope) : Cm := ⟨m.N, relS scope m.sc, fun x => scope.names.lookup x == some .cell, m.tb⟩
mutual
def compE : Nat → Cm → Expr → Option E
  | 0, _, _ => none
  | n + 1, m, e => match e with
    | .Constant (.int i) _ _ => some (.c (.int i))
    | .Constant (.str s) _ _ => some (.c (.str s))
    | .Constant (.bool b) _ _ => some (.c (.bl b))
    | .Constant .none _ _ => some (.c .non)
    | .Name x _ => m.name x
    | .BinOp a op b _ => match compE n m a, compE n m b with
      | some a', some b' => some (.bin op a' b')
      | _, _ => none
    | .UnaryOp .Not a _ => (compE n m a).map .not
    | .UnaryOp op a _ => (compE n m a).map (.un op)
    | .BoolOp .And [a] _ => compE n m a
    | .BoolOp .Or [a] _ => compE n m a
    | .BoolOp .And (a :: b :: r) p => match compE n m a, compE n m (.BoolOp .And (b :: r) p) with
      | some a', some b' => some (.and a' b')
      | _, _ => none
    | .BoolOp .Or (a :: b :: r) p => match compE n m a, compE n m (.BoolOp .Or (b :: r) p) with
      | some a', some b' => some (.or a' b')
      | _, _ => none
    | .IfExp t a b _ => match compE n m t, compE n m a, compE n m b with
      | some t', some a', some b' => some (.ite t' a' b')
      | _, _, _ => none
    | .Compare a [.In] [.Tuple es _ _] _ => match compE n m a, mapE (compE n m) es with
      | some a', some es' => some (.inT false a' es')
      | _, _ => none
    | .Compare a [.NotIn] [.Tuple es _ _] _ => match compE n m a, mapE (compE n m) es with
      | some a', some es' => some (.inT true a' es')
      | _, _ => none
    | .Compare a [.In] [.List es _] _ => match compE n m a, mapE (compE n m) es with
      | some a', some es' => some (.inT false a' es')
      | _, _ => none
    | .Compare a [.NotIn] [.List es _] _ => match compE n m a, mapE (compE n m) es with
      | some a', some es' => some (.inT true a' es')
      | _, _ => none
    | .Compare a [op] [b] _ => if behindInMarks op b then none else match compE n m a, compE n m b with
      | some a', some b' => some (.cmp op a' b')
      | _, _ => none
    | .Compare a [op, op'] [b, c] _ => if behindInMarks op' c then none else match compE n m a, compE n m b, compE n m c with
      | some a', some b', some c' => some (.cmp2 op op' a' b' c')
      | _, _, _ => none
    | .List es _ => (mapE (compE n m) es).map .lst
    | .Tuple es _ _ => (mapE (compE n m) es).map .tup
    | .Dict ks vs _ => if ks.length = vs.length ∧ ks.length ≤ 15 then match mapO (compE n m) ks, mapE (compE n m) vs with
      | some ks', some vs' => some (.dct ks' vs')
      | _, _ => none
      else none
    | .Subscript a (.Slice lo hi none _) _ => match compE n m a, optE (compE n m) lo, optE (compE n m) hi with
      | some a', some l', some h' => some (.slc a' l' h')
      | _, _, _ => none
    | .Subscript a (.Slice none none (some (.UnaryOp .USub (.Constant (.int 1) _ _) _)) _) _ => (compE n m a).map .rev
    | .Subscript a i _ => if notSlice i then match compE n m a, compE n m i with
      | some a', some i' => some (.sub a' i')
      | _, _ => none
      else none
    | .Call (.Name x _) as ks _ => match m.get x with
      | some (.fn _ sh sp) => match mapE (compE n m) as, mapK (compE n m) ks, shapeOf sh as.length (kwNames ks) with
        | some as', some ks', some ar => some (.call sp as' ks' ar)
        | _, _, _ => none
      | some (.bi b) => compB n m b as ks
      | some (.ty _ (some b)) => compB n m b as ks
      | some .isi => match ks, as with
        | [], [a, .Tuple es _ _] => if es.length < 100 then match compE n m a, tysOf m es with
          | some a', some ts => some (.isA a' ts)
          | _, _ => none
          else none
        | [], [a, b] => match compE n m a, tyOf m b with
          | some a', some t => some (.isA a' [t])
          | _, _ => none
        | _, _ => none
      | _ => none
    | .Call (.Attribute o nm apos) [.ListComp a b c d] [] cpos => if notSuper o && apos.endLine == cpos.line && decide (nm = "join") then match compE n m o, compE n m (.ListComp a b c d) with
      | some o', some l' => some (.joind o' l')
      | _, _ => none
      else none
    | .Call (.Attribute o nm apos) [] [] cpos => if notSuper o && apos.endLine == cpos.line then match mt0Of nm, compE n m o with
      | some t, some o' => some (.mt t o' .nil)
      | _, _ => none
      else none
    | .Call (.Attribute o nm apos) (a :: as) [] cpos => if notSuper o && apos.endLine == cpos.line && decide ((a :: as).length < 29) then match mtOf nm, compE n m o, mapE (compE n m) (a :: as) with
      | some t, some o', some as' => some (.mt t o' as')
      | _, _, _ => none
      else none
    | .ListComp elt [⟨tg, iter, ifs, 0⟩] scope _ => if notSet iter && blkC m.N m.sc scope (ownOf m.N scope) && decide (ifs.length ≤ 1) then match compI n m tg iter, compG n (m.blk scope) tg, mapE (compE n (m.blk scope)) ifs, compE n (m.blk scope) elt with
      | some it', some t', some cs', some e' => some (.lc e' t' it' cs' ((ownOf m.N scope).map (·.2)))
      | _, _, _, _ => none
      else none
    | _ => none
/-- a built-in called -/
def compB : Nat → Cm → Bi → List Expr → List Keyword → Option E
  | 0, _, _, _, _ => none
  | n + 1, m, b, as, ks => match as, ks with
    | [.ListComp a c d e], [] => (compE n m (.ListComp a c d e)).map (.bid b)
    | a :: as, [] => (mapE (compE n m) (a :: as)).map (.bi b)
    | _, _ => none
def compG : Nat → Cm → Expr → Option E
  | 0, _, _ => none
  | n + 1, m, e => match e with
    | .Name x _ => if m.stor x && !odd x then (ixOf x m.N).map .v else none
    | .Subscript o i _ => if notSlice i then match compE n m o, compE n m i with
      | some o', some i' => some (.sub o' i')
      | _, _ => none
      else none
    | .Tuple es _ _ => (mapE (compG n m) es).map .tup
    | _ => none
/-- what is walked, with the target -/
def compI : Nat → Cm → Expr → Expr → Option E
  | 0, _, _, _ => none
  | n + 1, m, tg, e => match e with
    | .Call (.Name x _) as [] _ => match m.get x with
      | some .rng => match as with
        | [_] => (mapE (compE n m) as).map .rng1
        | [_, _] => (mapE (compE n m) as).map .rng2
        | [_, _, _] => (mapE (compE n m) as).map .rng3
        | _ => none
      | some .enum => match as, tg with
        | [a], .Tuple _ _ _ => if noStar a then (compE n m a).map .enum else none
        | _, _ => none
      | some (.fn _ _ _) => compE n m e
      | some (.bi _) => (compE n m e).map .it
      | some (.ty _ _) => (compE n m e).map .it
      | _ => none
    | .Name _ _ => compE n m e
    | .Constant (.str z) _ _ => some (.c (.str z))
    | .List es _ => (mapE (compE n m) es).map .lst
    | .Tuple es _ _ => (mapE (compE n m) es).map .tup
    | .Subscript a i p => (compE n m (.Subscript a i p)).map .it
    | .BinOp a i b p => (compE n m (.BinOp a i b p)).map .it
    | .ListComp a i b p => (compE n m (.ListComp a i b p)).map .it
    | _ => none
end
mutual
def compS : Nat → Cm → Stmt → Option S
  | 0, _, _ => none
  | n + 1, m, s => match s with
    | .Expr (.Constant (.str _) _ _) _ => some .pass
    | .Expr e _ => if isComp e then none else (compE n m e).map .ex
    | .Return (some e) _ => (compE n m e).map .ret
    | .Return none _ => some .retN
    | .Pass _ => some .pass
    | .Break _ => some .brk
    | .Continue _ => some .cont
    | .Assign [.Name x _] e _ => if m.stor x && !odd x then match ixOf x m.N, compE n m e with
      | some i, some e' => some (.set (.v i) e')
      | _, _ => none
      else none
    | .Assign [.Subscript o i p] e _ => if isComp e then none else match compG n m (.Subscript o i p), compE n m e with
      | some t', some e' => some (.set t' e')
      | _, _ => none
    | .Assign [.Tuple ts k p] (.Tuple vs k2 p2) _ => match swPure m.sc ts vs with
      | some none => match compG n m (.Tuple ts k p), compE n m (.Tuple vs k2 p2) with
        | some t', some e' => some (.set t' e')
        | _, _ => none
      | some (some ns) => match ts, vs, mapE (compE n m) vs with
        | [.Name x _, .Name y _], [_, _], some e' => if m.loc x && m.loc y && decide (ns = [x, y]) then match ixOf x m.N, ixOf y m.N with
          | some i, some j => if i ≠ j then some (.par [i, j] e') else none
          | _, _ => none
          else none
        | [.Name x _, .Name y _, .Name z _], [_, _, _], some e' => if m.loc x && m.loc y && m.loc z && decide (ns = [x, y, z]) then match ixOf x m.N, ixOf y m.N, ixOf z m.N with
          | some i, some j, some l => if i ≠ j ∧ i ≠ l ∧ j ≠ l then some (.par [i, j, l] e') else none
          | _, _, _ => none
          else none
        | _, _, _ => none
      | none => none
    | .Assign [.Tuple ts k p] e _ => if isComp e || isTup e then none else match compG n m (.Tuple ts k p), compE n m e with
      | some t', some e' => some (.set t' e')
      | _, _ => none
    | .If c a b _ => match compE n m c, compSs n m a, compSs n m b with
      | some c', some a', some b' => some (.ite c' a' b')
      | _, _, _ => none
    | .For tg it b [] _ => if notSet it then match compG n m tg, compI n m tg it, compSs n m b with
      | some t', some i', some b' => some (.for_ t' i' b')
      | _, _, _ => none
      else none
    | .While c b [] _ => match compE n m c, compSs n m b with
      | some c', some b' => some (.while_ c' b')
      | _, _ => none
    | _ => none
def compSs : Nat → Cm → List Stmt → Option S
  | 0, _, _ => none
  | n + 1, m, ss => match ss with
    | [] => some .nil
    | s :: r => match compS n m s, compSs n m r with
      | some a, some b => some (.cons a b)
      | none, some b => some (.cons .bad b)
      | _, _ => none
end
end CW

namespace CW
open PySem PySem.Spec PyProof.Rows L2
/-! ## 7. Promises of defs where texts of data may be asked (nothing is being shown around) -/
structure FnG (P : Program) (w : World) (K : PySem.W.Frag) (mg : Str → Option Value) (base : Heap) (k : Nat) (f : Addr) (fd : FuncData) (ps : List Str) (sp : Sp) : Prop where
  ar : ∀ vs H Q R, sp vs H Q R → vs.length = ps.length
  go : ∀ (A : Around) (outer : List Env) (s : Shared) (H : Hp) (args : Args) (us : List Value) (vs : List V) (Q : VK) (R : XK), Room k A → A.guards = some [] →
    Env0 P w K mg base A outer s H → BindsTo s fd args (ps.zip us) → Vals vs us → sp vs H Q R → codeAny (model P w) A (.call (.ref f) args) (CR (L2.CX P w) outer P w H s Q R) s
theorem FnG.up {P : Program} {w : World} {K : PySem.W.Frag} {mg : Str → Option Value} {base : Heap} {j k : Nat} {f : Addr} {fd : FuncData} {ps : List Str} {sp : Sp} (F : FnG P w K mg base j f fd ps sp) (h : j ≤ k) : FnG P w K mg base k f fd ps sp :=
  ⟨F.ar, fun A outer s H args us vs Q R hr => F.go A outer s H args us vs Q R (hr.mono h)⟩
/-- how a written call of n arguments and the keywords ks binds -/
def KB (K : PySem.W.Frag) (fd : FuncData) (ps : List Str) (n : Nat) (ks : List Str) (ar : List Ar) : Prop := ∃ g : List Value → List Value → List Value,
  (∀ (s : Shared) (us ws : List Value), K.In s.heap → us.length = n → ws.length = ks.length → BindsTo s fd ⟨us, ks.zip ws⟩ (ps.zip (g us ws))) ∧
  ∀ {vs : List V} {us : List Value} {zs : List V} {ws : List Value}, Vals vs us → Vals zs ws → us.length = n → ws.length = ks.length → Vals (arr ar vs zs) (g us ws)
/-- what must be so of a name of the module -/
def GvOk (X : Cx) (x : Str) : Gv → Prop
  | .fn ps sh sp => ∃ f fd k, X.mg x = some (.ref f) ∧ PySem.W.keepIn X.K (.ref f) = true ∧ FnG X.prog X.w X.K X.mg X.base k f fd ps sp ∧ Room k X.A ∧ ∀ t ∈ sh, KB X.K fd ps t.1 t.2.1 t.2.2
  | .con v => ∃ u, X.mg x = some u ∧ RelV v u
  | .bi b => X.mg x = none ∧ bootBuiltins x = some b.val
  | .ty t ob => X.mg x = none ∧ bootBuiltins x = some (.type t.nm) ∧ ∀ b, ob = some b → b.val = .type t.nm
  | .isi => X.mg x = none ∧ bootBuiltins x = some (.builtin "isinstance")
  | .rng => x = "range" ∧ X.mg "range" = none
  | .enum => x = "enumerate" ∧ X.mg "enumerate" = none
structure Cnd (X : Cx) (m : Cm) (W : WX) : Prop where
  N : X.N = m.N
  nd : m.N.Nodup
  sc : X.env.scope = m.sc
  fn : X.fn = m.F
  calm : X.calm = true
  gd : X.A.guards = some []
  un : X.A.units + 65 < cLine
  tk : Takes X W
  po : PassesOwn (model X.prog X.w) X.A X.env X.xe
  gl : ∀ p ∈ m.tb, GvOk X p.1 p.2
section
variable {X : Cx} {m : Cm} {W : WX}
theorem ixOf_get {x : Str} : ∀ {N : List Str} {i : Nat}, ixOf x N = some i → N[i]? = some x
  | [], i, h => by cases h
  | y :: r, i, h => by
    unfold ixOf at h
    split at h
    · rename_i e; cases h; rw [e]; rfl
    · cases q : ixOf x r with
      | none => rw [q] at h; cases h
      | some j =>
        rw [q] at h
        obtain rfl : j + 1 = i := Option.some.inj h
        have z := ixOf_get q
        simpa using z
theorem Cnd.slot (c : Cnd X m W) {x : Str} {i : Nat} (h : ixOf x m.N = some i) : X.N[i]? = some x := by rw [c.N]; exact ixOf_get h
theorem Cnd.vis (c : Cnd X m W) {x : Str} (h : m.vis x = true) : Vis X.env.scope x := by
  rw [c.sc]
  unfold Cm.vis at h
  split at h
  · rename_i e; exact .inl e
  · rename_i e; exact .inr (.inl e)
  · rename_i e; exact .inr (.inr e)
  · cases h
theorem Cnd.gl1 (c : Cnd X m W) {x : Str} (h : m.glob x = true) : Gl X x := by
  show X.env.scope.names.lookup x = _
  rw [c.sc]
  unfold Cm.glob at h
  split at h
  · assumption
  · cases h
theorem Cnd.get (c : Cnd X m W) {x : Str} {g : Gv} (h : m.get x = some g) : Gl X x ∧ (x == ("__debug__" : Str)) = false ∧ x ≠ "__name__" ∧ GvOk X x g := by
  unfold Cm.get at h
  split at h
  · rename_i e
    rw [Bool.and_eq_true] at e
    obtain ⟨e1, e2⟩ := e
    have e3 : odd x = false := by simpa using e2
    unfold odd at e3
    simp only [Bool.or_eq_false_iff, decide_eq_false_iff_not] at e3
    exact ⟨c.gl1 e1, by simpa using e3.1.1, e3.2, c.gl (x, g) (PySem.mem_of_lookup h)⟩
  · cases h
theorem odd_no {x : Str} (h : odd x = false) : (x == ("__debug__" : Str)) = false ∧ (x == ("__classdict__" : Str)) = false := by
  unfold odd at h
  simp only [Bool.or_eq_false_iff, decide_eq_false_iff_not] at h
  exact ⟨by simpa using h.1.1, by simpa using h.1.2⟩
/-- truth of any value -/
theorem pt_tru {e : Expr} {t : TE} (h : PE X e t) (hp : plainTest e = true) : PT X e (fun σ H Q => t σ H fun x H1 => rTru X.K x H1 Q) :=
  ⟨fun pins s σ H Q I hw => isTrue_plain (thn (h.run pins s σ H _ I hw) fun v s1 ⟨x, H1, I1, r1, q1⟩ => tru_ok pins s1 σ H1 x v Q I1 r1 (tru_of q1)) (isTrue_is hp _)⟩
/-- argument lists with their lengths -/
structure PAn (X : Cx) (es : List Expr) (t : TA) : Prop where
  run : ∀ (pos : Pos) (pins : List (Addr × Obj)) (s : Shared) (σ : L2.St) (H : Hp) (Q : List V → Hp → Prop), Inv X pins σ H s → t σ H Q →
    wpAny (model X.prog X.w) X.A (spliced (backTo pos (starEach es X.env))) (fun us s' => us.length = es.length ∧ AP X pins σ Q us s') X.xe s
theorem PAn.pa {es : List Expr} {t : TA} (h : PAn X es t) : PA X es t := ⟨fun pos pins s σ H Q I hw => thn (h.run pos pins s σ H Q I hw) fun _ _ q => q.2⟩
theorem args_ok {f : Expr → Option E} (hf : ∀ e a, f e = some a → PE X e (wE X.K W a)) : ∀ {es : List Expr} {a : E}, mapE f es = some a → PAn X es (wA X.K W a) ∧ es.all noStar = true ∧ (es = [] → a = .nil)
  | [], a, h => by
    obtain rfl := Option.some.inj h
    exact ⟨⟨fun _ _ _ _ H _ I hw => Calls.spliced_nil ⟨rfl, [], H, I, .nil, hw⟩⟩, rfl, fun _ => rfl⟩
  | e :: es, a, h => by
    unfold mapE at h
    split at h
    · rename_i hn
      split at h
      · rename_i a1 r1 e1 e2
        obtain rfl := Option.some.inj h
        obtain ⟨ih, hall, _⟩ := args_ok hf e2
        refine ⟨⟨fun pos pins s σ H Q I hw => ?_⟩, by rw [List.all_cons, hn, hall]; rfl, fun z => nomatch z⟩
        rw [star_cons hn]
        show wpAny _ _ (spliced ((false, eval e X.env) :: backTo pos (starEach es X.env))) _ _ s
        refine Calls.spliced_cons (thn ((hf e a1 e1).run pins s σ H _ I hw) fun u s1 ⟨x, H1, I1, rx, q1⟩ => ?_)
        exact thn (ih.run pos pins s1 σ H1 _ I1 q1) fun us s2 ⟨hl, xs, H2, I2, rs, q2⟩ => ⟨by rw [List.length_cons, hl, List.length_cons], x :: xs, H2, I2, .cons rx rs, q2⟩
      · cases h
    · cases h
structure PKn (X : Cx) (ks : List Keyword) (t : TA) : Prop where
  run : ∀ (pos : Pos) (pins : List (Addr × Obj)) (s : Shared) (σ : L2.St) (H : Hp) (Q : List V → Hp → Prop), Inv X pins σ H s → t σ H Q →
    wpAny (model X.prog X.w) X.A (evalAll ((backToKw pos (keywordEach ks X.env)).map (·.2))) (fun us s' => us.length = ks.length ∧ AP X pins σ Q us s') X.xe s
theorem kws_ok {f : Expr → Option E} (hf : ∀ e a, f e = some a → PE X e (wE X.K W a)) : ∀ {ks : List Keyword} {a : E}, mapK f ks = some a →
    PKn X ks (wA X.K W a) ∧ (∀ pos, (backToKw pos (keywordEach ks X.env)).all (·.1.isSome) = true) ∧ (∀ pos, (backToKw pos (keywordEach ks X.env)).filterMap (·.1) = kwNames ks) ∧ (∀ pos, (backToKw pos (keywordEach ks X.env)).any (·.1.isNone) = false) ∧ (kwNames ks).length = ks.length
  | [], a, h => by
    obtain rfl := Option.some.inj h
    exact ⟨⟨fun _ _ _ _ H _ I hw => wpAny_evalAll_nil ⟨rfl, [], H, I, .nil, hw⟩⟩, fun _ => rfl, fun _ => rfl, fun _ => rfl, rfl⟩
  | ⟨some x, e, p⟩ :: ks, a, h => by
    unfold mapK at h
    split at h
    · rename_i a1 r1 e1 e2
      obtain rfl := Option.some.inj h
      obtain ⟨ih, h1, h2, h3, h4⟩ := kws_ok hf e2
      refine ⟨⟨fun pos pins s σ H Q I hw => ?_⟩, fun pos => ?_, fun pos => ?_, fun pos => ?_, ?_⟩
      · show wpAny _ _ (evalAll ((do let v ← eval e X.env; standAt pos; pure v) :: (backToKw pos (keywordEach ks X.env)).map (·.2))) _ _ s
        refine wpAny_evalAll_cons (wpAny_bind (thn ((hf e a1 e1).run pins s σ H _ I hw) fun u s1 ⟨x, H1, I1, rx, q1⟩ => wpAny_bind (wpAny_standAt (wpAny_pure ?_))))
        exact thn (ih.run pos pins s1 σ H1 _ I1 q1) fun us s2 ⟨hl, xs, H2, I2, rs, q2⟩ => ⟨by rw [List.length_cons, hl, List.length_cons], x :: xs, H2, I2, .cons rx rs, q2⟩
      · show (true && (backToKw pos (keywordEach ks X.env)).all (·.1.isSome)) = true
        rw [h1 pos]; rfl
      · show x :: (backToKw pos (keywordEach ks X.env)).filterMap (·.1) = x :: kwNames ks
        rw [h2 pos]
      · show (false || (backToKw pos (keywordEach ks X.env)).any (·.1.isNone)) = false
        rw [h3 pos]; rfl
      · show (x :: kwNames ks).length = _
        rw [List.length_cons, h4, List.length_cons]
    · cases h
  | ⟨none, e, p⟩ :: ks, a, h => by cases h
theorem shape_mem {n : Nat} {ks : List Str} {ar : List Ar} : ∀ {sh : List (Nat × List Str × List Ar)}, shapeOf sh n ks = some ar → (n, ks, ar) ∈ sh
  | [], h => by cases h
  | (k, names, a) :: r, h => by
    unfold shapeOf at h
    split at h
    · rename_i e
      obtain ⟨rfl, rfl⟩ := e
      obtain rfl := Option.some.inj h
      exact List.mem_cons_self
    · exact List.mem_cons_of_mem _ (shape_mem h)
/-- the callee runs -/
theorem run_G {k : Nat} {f : Addr} {fd : FuncData} {ps : List Str} {sp : Sp} {n : Nat} {ks : List Str} {ar : List Ar} (F : FnG X.prog X.w X.K X.mg X.base k f fd ps sp) (hr : Room k X.A) (hg : X.A.guards = some []) (hb : KB X.K fd ps n ks ar) (tk : Takes X W)
    {pins : List (Addr × Obj)} {σ : L2.St} {H : Hp} {s : Shared} {Q : VK} {us ws : List Value} {vs zs : List V} (I : Inv X pins σ H s) (rv : Vals vs us) (rz : Vals zs ws) (h1 : us.length = n) (h2 : ws.length = ks.length)
    (h : sp (arr ar vs zs) H Q fun cls d H' => W cls d σ H') : wpAny (model X.prog X.w) X.A (call (.ref f) us (ks.zip ws)) (EP X pins σ Q) X.xe s := by
  obtain ⟨g, g1, g2⟩ := hb
  refine wpAny_call (codeAny_mono (F.go X.A X.stack s H ⟨us, ks.zip ws⟩ (g us ws) (arr ar vs zs) Q _ hr hg I.env0 (g1 s us ws I.kIn h1 h2) (g2 rv rz h1 h2) h) fun r s' hq => ?_)
  cases r with
  | error x => exact tk x s' (XE.of_call I (fun _ _ _ z => z) hq)
  | ok fl =>
    cases fl with
    | ret u => exact I.after hq
    | next => exact False.elim hq
    | brk => exact False.elim hq
    | cont => exact False.elim hq
theorem pe_callG (c : Cnd X m W) {x : Str} {ps : List Str} {sh : List (Nat × List Str × List Ar)} {sp : Sp} {ar : List Ar} {p pos : Pos} {as : List Expr} {ks : List Keyword} {as' ks' : E} (hx : m.get x = some (.fn ps sh sp))
    (ha : PAn X as (wA X.K W as') ∧ as.all noStar = true ∧ (as = [] → as' = .nil)) (hk : PKn X ks (wA X.K W ks') ∧ (∀ pos, (backToKw pos (keywordEach ks X.env)).all (·.1.isSome) = true) ∧ (∀ pos, (backToKw pos (keywordEach ks X.env)).filterMap (·.1) = kwNames ks) ∧ (∀ pos, (backToKw pos (keywordEach ks X.env)).any (·.1.isNone) = false) ∧ (kwNames ks).length = ks.length)
    (hs : shapeOf sh as.length (kwNames ks) = some ar) : PE X (.Call (.Name x p) as ks pos) (wE X.K W (.call sp as' ks' ar)) := by
  obtain ⟨hg, hd, hn, f, fd, k, mg, kp, F, hr, hsh⟩ := c.get hx
  obtain ⟨hk1, hk2, hk3, hk4, hk5⟩ := hk
  have hb := hsh _ (shape_mem hs)
  refine ⟨fun pins s σ H Q I hw => wpAny_Call_Name_kw (ld_glob I hg mg ?_ hd)⟩
  have fin : ∀ (us : List Value) (s1 : Shared), (us.length = as.length ∧ AP X pins σ (fun vs H1 => wA X.K W ks' σ H1 fun zs H2 => sp (arr ar vs zs) H2 Q fun cls d H' => W cls d σ H') us s1) →
      wpAny (model X.prog X.w) X.A (evalAll ((backToKw pos (keywordEach ks X.env)).map (·.2))) (fun ws s2 => X.K.In s2.heap ∧ wpAny (model X.prog X.w) X.A (call (.ref f) ([] ++ us) (((backToKw pos (keywordEach ks X.env)).filterMap (·.1)).zip ws)) (EP X pins σ Q) X.xe s2) X.xe s1 := by
    rintro us s1 ⟨hl, vs, H1, I1, rv, q1⟩
    refine thn (hk1.run pos pins s1 σ H1 _ I1 q1) fun ws s2 ⟨hl2, zs, H2, I2, rz, q2⟩ => ⟨I2.kIn, ?_⟩
    rw [hk3, List.nil_append]
    exact run_G F hr c.gd hb c.tk I2 rv rz hl (by rw [hl2, hk5]) q2
  cases as with
  | nil =>
    have e0 := ha.2.2 rfl
    subst e0
    refine PySem.W.callWith_KW0 (h₀ := X.base) I.ok.mod.kin kp (hk2 pos) ?_ (by show (false || _) = false; rw [hk4]; rfl)
    exact fin [] s ⟨rfl, [], H, I, .nil, hw⟩
  | cons e es =>
    have hall := ha.2.1
    rw [List.all_cons, Bool.and_eq_true] at hall
    exact PySem.W.callWith_KW (h₀ := X.base) I.ok.mod.kin kp (hk2 pos) (thn (ha.1.run pos pins s σ H _ I hw) fin) (by rw [star_any ha.2.1, hk4]; rfl) (star_cons hall.1)
end
end CW

namespace CW
open PySem PySem.Spec PyProof.Rows L2
/-! ## 8. Each construct -/
section
variable {X : Cx} {m : Cm} {W : WX}
/-- a list is forgotten -/
theorem Inv.drop {pins : List (Addr × Obj)} {σ : L2.St} {H : Hp} {s : Shared} {D : Addr} {acc : List V} (I : Inv X pins σ H s) (hD : H D = some (.lst acc)) : Inv X pins σ (dropA H D) s := by
  have no : ∀ {b : Addr}, H b = none → dropA H D b = none := fun {b} e => by unfold dropA; split <;> first | rfl | exact e
  have yes : ∀ {b : Addr} {o : HO}, H b = some o → (∀ xs, o ≠ .lst xs) → dropA H D b = some o := fun {b o} e hn => by
    unfold dropA
    rw [if_neg (fun z => by rw [z, hD] at e; exact hn acc (Option.some.inj e).symm)]
    exact e
  refine ⟨I.ok, I.os, I.bare, ⟨I.base.keep, I.base.slot, fun b o e n hx => no (I.base.free b o e n hx), I.base.there, fun b xs e => yes (I.base.tups b xs e) (fun _ z => nomatch z), fun b o u e => yes (I.base.frzs b o u e) (fun _ z => nomatch z), fun b ps e => ?_⟩,
    I.loc, I.cell, no I.free, fun x c e => no (I.freeC x c e), fun p hp => ?_, fun b o e => ?_, I.len⟩
  · obtain ⟨more, q⟩ := I.base.tbls b ps e
    exact ⟨more, yes q (fun _ z => nomatch z)⟩
  · obtain ⟨h1, h2, h3⟩ := I.pin p hp
    exact ⟨h1, no h2, h3⟩
  · have eb : H b = some o := by
      unfold dropA at e
      split at e
      · cases e
      · exact e
    exact (I.hok b o eb).stay (fun _ _ _ q => q) (fun c q => yes q (fun _ z => nomatch z)) fun c xs q => yes q (fun _ z => nomatch z)
theorem base_S {o : Expr} {nm : Str} {env : Env} (h : notSuper o = true) : attributeBase o nm env (eval o env) = eval o env := by
  unfold attributeBase
  unfold notSuper at h
  split
  · cases h
  · rfl
theorem pe_notM {a : Expr} {ta : TE} {pos : Pos} (ha : PE X a ta) : PE X (.UnaryOp .Not a pos) (fun σ H Q => ta σ H fun x H1 => match x with | .bl k => Q (.bl (!k)) H1 | _ => False) :=
  ⟨fun pins s σ H Q I h => UnaryOp_ (thn (ha.run pins s σ H _ I h) fun v s1 ⟨x, H1, I1, r1, q1⟩ => by
    cases x with
    | bl k => cases r1; exact not_of (wpAny_truthy_bool ⟨.bl (!k), H1, I1, rfl, q1⟩)
    | _ => exact q1.elim)⟩
theorem pe_andM {a b : Expr} {rest : List Expr} {ta tb : TE} {pos : Pos} (ha : PE X a ta) (hb : PE X (.BoolOp .And (b :: rest) pos) tb) :
    PE X (.BoolOp .And (a :: b :: rest) pos) (fun σ H Q => ta σ H fun x H1 => match x with | .bl k => if k = true then tb σ H1 Q else Q (.bl false) H1 | _ => False) :=
  ⟨fun pins s σ H Q I h => BoolOp_and (thn (ha.run pins s σ H _ I h) fun v s1 ⟨x, H1, I1, r1, q1⟩ => by
    cases x with
    | bl k =>
      cases r1
      refine wpAny_truthy_bool ?_
      cases k with
      | true => exact hb.run pins s1 σ H1 Q I1 q1
      | false => exact ⟨.bl false, H1, I1, rfl, q1⟩
    | _ => exact q1.elim)⟩
theorem pe_orM {a b : Expr} {rest : List Expr} {ta tb : TE} {pos : Pos} (ha : PE X a ta) (hb : PE X (.BoolOp .Or (b :: rest) pos) tb) :
    PE X (.BoolOp .Or (a :: b :: rest) pos) (fun σ H Q => ta σ H fun x H1 => match x with | .bl k => if k = true then Q (.bl true) H1 else tb σ H1 Q | _ => False) :=
  ⟨fun pins s σ H Q I h => BoolOp_or (thn (ha.run pins s σ H _ I h) fun v s1 ⟨x, H1, I1, r1, q1⟩ => by
    cases x with
    | bl k =>
      cases r1
      refine wpAny_truthy_bool ?_
      cases k with
      | true => exact ⟨.bl true, H1, I1, rfl, q1⟩
      | false => exact hb.run pins s1 σ H1 Q I1 q1
    | _ => exact q1.elim)⟩
theorem pt_cmpM {a b : Expr} {ta tb : TE} {pos : Pos} {op : CmpOp} {r : R2} (ho : OpR X (compareOp op) r) (ha : PE X a ta) (hb : PE X b tb) (hm : behindInMarks op b = false) :
    PT X (.Compare a [op] [b] pos) (fun σ H Q => ta σ H fun x H1 => tb σ H1 fun y H2 => r x y H2 fun z H3 => match z with | .bl k => Q k H3 | _ => False) := by
  refine ⟨fun pins s σ H Q I h => wpAny_isTrue_Compare1 (thn (ha.run pins s σ H _ I h) fun v s1 ⟨x, H1, I1, r1, q1⟩ => thn (hb.run pins s1 σ H1 _ I1 q1) fun u s2 ⟨y, H2, I2, r2, q2⟩ =>
    thn (ho pins s2 σ H2 x y v u _ I2 r1 r2 q2) fun d s3 ⟨z, H3, I3, r3, q3⟩ => ?_) hm⟩
  cases z with
  | bl k => cases r3; exact wpAny_truthy_bool ⟨H3, I3, q3⟩
  | _ => exact q3.elim

theorem lastMarks2 {op op' : CmpOp} {b c : Expr} (h : behindInMarks op' c = false) : lastMarks [op, op'] [b, c] = false := h
theorem pe_chainM {a b c : Expr} {ta tb tc : TE} {pos : Pos} {op op' : CmpOp} {r r' : R2} (ho : OpR X (compareOp op) r) (ho' : OpR X (compareOp op') r') (ha : PE X a ta) (hb : PE X b tb) (hc : PE X c tc) (hm : behindInMarks op' c = false) :
    PE X (.Compare a [op, op'] [b, c] pos) (fun σ H Q => ta σ H fun x H1 => tb σ H1 fun y H2 => r x y H2 fun z H3 => match z with | .bl k => if k = true then tc σ H3 fun u H4 => r' y u H4 Q else Q (.bl false) H3 | _ => False) := by
  refine ⟨fun pins s σ H Q I h => Compare_chain (thn (ha.run pins s σ H _ I h) fun v s1 ⟨x, H1, I1, r1, q1⟩ => chain_link (thn (hb.run pins s1 σ H1 _ I1 q1) fun u s2 ⟨y, H2, I2, r2, q2⟩ =>
    thn (ho pins s2 σ H2 x y v u _ I2 r1 r2 q2) fun d s3 ⟨z, H3, I3, r3, q3⟩ => ?_)) (lastMarks2 hm)⟩
  cases z with
  | bl k =>
    cases r3
    refine wpAny_truthy_bool ?_
    cases k with
    | false => exact ite_ff ⟨.bl false, H3, I3, rfl, q3⟩
    | true => exact ite_tt (chain_last (thn (hc.run pins s3 σ H3 _ I3 q3) fun w' s4 ⟨z', H4, I4, r4, q4⟩ => ho' pins s4 σ H4 y z' u w' Q I4 r2 r4 q4))
  | _ => exact q3.elim
theorem pt_chainM {a b c : Expr} {ta tb tc : TE} {pos : Pos} {op op' : CmpOp} {r r' : R2} (ho : OpR X (compareOp op) r) (ho' : OpR X (compareOp op') r') (ha : PE X a ta) (hb : PE X b tb) (hc : PE X c tc) (hm : behindInMarks op' c = false) :
    PT X (.Compare a [op, op'] [b, c] pos) (fun σ H Q => ta σ H fun x H1 => tb σ H1 fun y H2 => r x y H2 fun z H3 => match z with | .bl k => if k = true then tc σ H3 fun u H4 => r' y u H4 fun z2 H5 => (match z2 with | .bl k2 => Q k2 H5 | _ => False) else Q false H3 | _ => False) := by
  refine ⟨fun pins s σ H Q I h => isTrue_chain (thn (ha.run pins s σ H _ I h) fun v s1 ⟨x, H1, I1, r1, q1⟩ => test_link (thn (hb.run pins s1 σ H1 _ I1 q1) fun u s2 ⟨y, H2, I2, r2, q2⟩ =>
    thn (ho pins s2 σ H2 x y v u _ I2 r1 r2 q2) fun d s3 ⟨z, H3, I3, r3, q3⟩ => ?_)) (lastMarks2 hm)⟩
  cases z with
  | bl k =>
    cases r3
    refine wpAny_truthy_bool ?_
    cases k with
    | false => exact ite_ff ⟨H3, I3, q3⟩
    | true =>
      refine ite_tt (test_last (thn (hc.run pins s3 σ H3 _ I3 q3) fun w' s4 ⟨z', H4, I4, r4, q4⟩ => thn (ho' pins s4 σ H4 y z' u w' _ I4 r2 r4 q4) fun d' s5 ⟨z2, H5, I5, r5, q5⟩ => ?_))
      cases z2 with
      | bl k2 => cases r5; exact wpAny_truthy_bool ⟨H5, I5, q5⟩
      | _ => exact q5.elim
  | _ => exact q3.elim
theorem po_okM {f : Expr → Option E} (hf : ∀ e a, f e = some a → PE X e (wE X.K W a)) : ∀ {o : Option Expr} {a : E}, optE f o = some a → PO X o (wO X.K W a)
  | none, a, h => by
    obtain rfl := Option.some.inj h
    exact po_none
  | some e, a, h => by
    simp only [optE] at h
    split at h
    · rename_i a1 e1
      obtain rfl := Option.some.inj h
      refine ⟨fun pins s σ H Q I hw => ?_⟩
      rw [evalPart_some]
      refine thn ((hf e a1 e1).run pins s σ H _ I hw) fun u s1 ⟨x, H1, I1, r1, q1⟩ => ?_
      cases x with
      | int i => obtain ⟨t, rfl⟩ := r1; exact ⟨some i, H1, I1, .int i t, q1⟩
      | _ => exact q1.elim
    · cases h
theorem pps_ok {f : Expr → Option E} (hf : ∀ e a, f e = some a → PE X e (wE X.K W a)) {pos : Pos} : ∀ {ks : List (Option Expr)} {vs : List Expr} {a b : E}, ks.length = vs.length → mapO f ks = some a → mapE f vs = some b →
    PPs X pos ks vs ((wL X.K W a).zip (wL X.K W b)) ∧ ks.all (·.isSome) = true
  | [], [], a, b, _, h1, h2 => by
    obtain rfl := Option.some.inj h1
    obtain rfl := Option.some.inj h2
    exact ⟨pps_nil, rfl⟩
  | [], _ :: _, _, _, hl, _, _ => nomatch hl
  | _ :: _, [], _, _, hl, _, _ => nomatch hl
  | none :: _, _ :: _, _, _, _, h1, _ => by cases h1
  | some k :: ks, v :: vs, a, b, hl, h1, h2 => by
    unfold mapO at h1
    unfold mapE at h2
    split at h1
    · rename_i a1 r1 e1 e2
      obtain rfl := Option.some.inj h1
      split at h2
      · split at h2
        · rename_i a2 r2 e3 e4
          obtain rfl := Option.some.inj h2
          obtain ⟨p, q⟩ := pps_ok hf (pos := pos) (Nat.succ.inj hl) e2 e4
          exact ⟨pps_cons (hf _ _ e1) (hf _ _ e3) p, by rw [List.all_cons, q]; rfl⟩
        · cases h2
      · cases h2
    · cases h1
theorem pe_dctM {f : Expr → Option E} (hf : ∀ e a, f e = some a → PE X e (wE X.K W a)) {pos : Pos} {ks : List (Option Expr)} {vs : List Expr} {a b : E} (hl : ks.length = vs.length) (h15 : ks.length ≤ 15) (h1 : mapO f ks = some a) (h2 : mapE f vs = some b) :
    PE X (.Dict ks vs pos) (wE X.K W (.dct a b)) := by
  obtain ⟨p, q⟩ := pps_ok hf (pos := pos) hl h1 h2
  cases ks with
  | nil =>
    cases vs with
    | nil =>
      obtain rfl := Option.some.inj h1
      obtain rfl := Option.some.inj h2
      refine ⟨fun pins s σ H Q I hw => pe_dnewK.run pins s σ H Q I fun p hp => ?_⟩
      obtain ⟨_, kvs, e, _, q⟩ := hw p hp
      cases kvs with
      | nil => rw [upd_upd] at q; exact q
      | cons _ _ => cases e
    | cons _ _ => cases hl
  | cons k ks => exact pe_disp p q hl (fun z => nomatch z) h15
theorem val_cases (b : Bi) : (∃ id, b.val = .builtin id) ∨ ∃ T, b.val = .type T := by cases b <;> first | exact .inl ⟨_, rfl⟩ | exact .inr ⟨_, rfl⟩
/-- a built-in's call over what its arguments give -/
theorem call_B (c : Cnd X m W) {x : Str} {b : Bi} {p pos : Pos} {e : Expr} {es : List Expr} (hg : Gl X x) (hd : (x == ("__debug__" : Str)) = false) (hn : x ≠ "__name__") (hm : X.mg x = none) (hv : bootBuiltins x = some b.val) (hall : (e :: es).all noStar = true)
    {pins : List (Addr × Obj)} {s : Shared} {σ : L2.St} {H : Hp} {Q : Value → Shared → Prop} (I : Inv X pins σ H s)
    (h : wpAny (model X.prog X.w) X.A (spliced (backTo pos (starEach (e :: es) X.env))) (fun us s1 => wpAny (model X.prog X.w) X.A (call b.val us) Q X.xe s1) X.xe s) : wpAny (model X.prog X.w) X.A (eval (.Call (.Name x p) (e :: es) [] pos) X.env) Q X.xe s := by
  have h2 := hall
  rw [List.all_cons, Bool.and_eq_true] at h2
  refine wpAny_Call_Name_kw (ld_blt I hg hm hv ?_ hn hd)
  rcases val_cases b with ⟨id, e1⟩ | ⟨T, e1⟩
  · rw [e1] at h ⊢
    exact PyProof.Rows.callWith_builtin1 h (star_cons h2.1) (star_any h2.2)
  · rw [e1] at h ⊢
    exact PyProof.Rows.callWith_type1 h (star_cons h2.1) (star_any h2.2)
theorem pe_biM (c : Cnd X m W) {x : Str} {b : Bi} {p pos : Pos} {e : Expr} {es : List Expr} {a : E} (hg : Gl X x) (hd : (x == ("__debug__" : Str)) = false) (hn : x ≠ "__name__") (hm : X.mg x = none) (hv : bootBuiltins x = some b.val)
    (ha : PAn X (e :: es) (wA X.K W a)) (hall : (e :: es).all noStar = true) : PE X (.Call (.Name x p) (e :: es) [] pos) (wE X.K W (.bi b a)) :=
  ⟨fun pins s σ H Q I hw => call_B c hg hd hn hm hv hall I (thn (ha.run pos pins s σ H _ I hw) fun us s1 ⟨_, vs, H1, I1, r1, q1⟩ => bi_ok c.calm c.gd c.un b pins s1 σ H1 vs us Q I1 r1 q1)⟩
theorem pe_bidM (c : Cnd X m W) {x : Str} {b : Bi} {p pos : Pos} {e : Expr} {a : E} (hg : Gl X x) (hd : (x == ("__debug__" : Str)) = false) (hn : x ≠ "__name__") (hm : X.mg x = none) (hv : bootBuiltins x = some b.val)
    (ha : PE X e (wE X.K W a)) (hs : noStar e = true) : PE X (.Call (.Name x p) [e] [] pos) (wE X.K W (.bid b a)) := by
  refine ⟨fun pins s σ H Q I hw => call_B c hg hd hn hm hv (by rw [List.all_cons, hs]; rfl) I ?_⟩
  rw [star_cons hs]
  show wpAny _ _ (spliced ((false, eval e X.env) :: backTo pos (starEach [] X.env))) _ _ s
  refine Calls.spliced_cons (thn (ha.run pins s σ H _ I hw) fun u s1 ⟨y, H1, I1, ry, q1⟩ => Calls.spliced_nil ?_)
  obtain ⟨D, acc, rfl, hD, q⟩ := q1
  refine thn (bi_ok c.calm c.gd c.un b pins s1 σ H1 [.ref D] [u] _ I1 (.cons ry .nil) q) fun z s2 ⟨zv, H2, I2, rz, hD2, q2⟩ => ?_
  exact ⟨zv, dropA H2 D, Inv.drop I2 hD2, rz, q2⟩
/-- a method of a built-in kind -/
theorem pe_bmM {T id : String} {name : Str} {ty : V → Hp → Prop} {r : V → List V → Hp → VK → Prop} {o e : Expr} {es : List Expr} {to : TE} {t : TA} {apos cpos : Pos} (pa : PlainAttrs T) (slot : Slot T name id) (hty : typeOf (.builtin id) = pure (.type "method_descriptor"))
    (hm : MtR X id r) (hT : ∀ x H, ty x H → tyV X.K T x H) (ho : PE X o to) (ha : PAn X (e :: es) t) (hall : (e :: es).all noStar = true) (hs : notSuper o = true) (hline : (apos.endLine == cpos.line) = true) (hlen : (e :: es).length < 29) :
    PE X (.Call (.Attribute o name apos) (e :: es) [] cpos) (fun σ H Q => to σ H fun x H1 => ty x H1 ∧ t σ H1 fun xs H2 => r x xs H2 Q) := by
  have h2 := hall
  rw [List.all_cons, Bool.and_eq_true] at h2
  refine ⟨fun pins s σ H Q I h => ?_⟩
  have few : ((backTo cpos (starEach (e :: es) X.env)).all (fun x => !x.1) && (backToKw cpos (keywordEach [] X.env)).all (fun x => x.1.isSome) && decide ((e :: es).length + ([] : List Keyword).length + (if ([] : List Keyword).isEmpty then 0 else 1) < 30)) = true := by
    rw [star_all hall]
    show (true && true && decide ((e :: es).length + 0 + 0 < 30)) = true
    rw [decide_eq_true (by omega)]; rfl
  refine wpAny_Call_method_late (base_S hs) few hline rfl (thn (ho.run pins s σ H _ I h) fun v s1 ⟨x, H1, I1, r1, hy, q1⟩ => ?_)
  obtain ⟨z1, z2⟩ := tyV_is I1 r1 (hT _ _ hy)
  refine ⟨T, id, pa, slot, hty, z1, z2, ?_⟩
  have hA := ha.run cpos pins s1 σ H1 _ I1 q1
  rw [star_cons h2.1] at hA ⊢
  refine Calls.callWith_builtin (by show (false || (backTo cpos (starEach es X.env)).any (·.1)) = false; rw [star_any h2.2]; rfl) (Calls.evalArgs_plain ?_)
  exact thn hA fun us s2 ⟨_, vs, H2, I2, r2, q2⟩ => hm pins s2 σ H2 x vs v us Q I2 r1 r2 q2
end
end CW

namespace CW
open PySem PySem.Spec PyProof.Rows L2
section
variable {X : Cx} {m : Cm} {W : WX}
theorem mt_app : MtR X "list.append" (rMt X.K .append) := by
  intro pins s σ H x xs v us Q I rx rv h
  unfold rMt at h
  split at h <;> first | exact h.elim | (rename_i e; cases e; done) | skip
  obtain ⟨ys, h1, h2, h3⟩ := h
  exact mt_append pins s σ H _ _ v us Q I rx rv ⟨_, ys, _, rfl, rfl, h1, h2, h3⟩
theorem mt_joi : MtR X "str.join" (rMt X.K .join) := by
  intro pins s σ H x xs v us Q I rx rv h
  unfold rMt at h
  split at h <;> first | exact h.elim | (rename_i e; cases e; done) | skip
  obtain ⟨ys, h1, h2, h3⟩ := h
  exact mt_join pins s σ H _ _ v us Q I rx rv ⟨_, _, ys, rfl, rfl, h1, h2, h3⟩
theorem mt_sta : MtR X "str.startswith" (rMt X.K .startswith) := by
  intro pins s σ H x xs v us Q I rx rv h
  unfold rMt at h
  split at h <;> first | exact h.elim | (rename_i e; cases e; done) | skip
  exact mt_startswith pins s σ H _ _ v us Q I rx rv ⟨_, _, rfl, rfl, h⟩
theorem mt_ext : MtR X "list.extend" (rMt X.K .extend) := by
  intro pins s σ H x xs v us Q I rx rv h
  unfold rMt at h
  split at h <;> first | exact h.elim | (rename_i e; cases e; done) | skip
  obtain ⟨a, b, h1, h2, h3, h4⟩ := h
  exact mt_extend pins s σ H _ _ v us Q I rx rv ⟨_, _, a, b, rfl, rfl, h1, h2, h3, h4⟩
theorem mt_popM : MtR X "list.pop" (rMt X.K .pop) := by
  intro pins s σ H x xs v us Q I rx rv h
  unfold rMt at h
  split at h <;> first | exact h.elim | (rename_i e; cases e; done) | skip
  · obtain ⟨a, y, h1, h2, h3⟩ := h
    exact mt_pop pins s σ H _ _ v us Q I rx rv ⟨_, a, y, rfl, rfl, h1, h2, h3⟩
  · obtain ⟨a, k, y, h1, h2, h3, h4, h5, h6⟩ := h
    exact mt_popAt pins s σ H _ _ v us Q I rx rv ⟨_, a, _, k, y, rfl, rfl, h1, h2, h3, h4, h5, h6⟩
theorem mt_clr : MtR X "list.clear" (rMt X.K .clear) := by
  intro pins s σ H x xs v us Q I rx rv h
  unfold rMt at h
  split at h <;> first | exact h.elim | (rename_i e; cases e; done) | skip
  obtain ⟨a, h1, h2⟩ := h
  exact mt_clear pins s σ H _ _ v us Q I rx rv ⟨_, a, rfl, rfl, h1, h2⟩
theorem ty_l {K : PySem.W.Frag} {H : Hp} {x : V} {t : Mt} (h : mtTy K t x H) (ht : t = .append ∨ t = .extend ∨ t = .pop ∨ t = .clear) : tyV K "list" x H := by
  rcases ht with rfl | rfl | rfl | rfl <;> (cases x with
    | ref l => obtain ⟨ys, h⟩ := h; exact .inl ⟨rfl, ys, SqL.of h⟩
    | _ => exact h.elim)
theorem ty_s {K : PySem.W.Frag} {H : Hp} {x : V} {t : Mt} (h : mtTy K t x H) (ht : t = .join ∨ t = .startswith) : tyV K "str" x H := by
  rcases ht with rfl | rfl <;> (cases x with
    | str z => rfl
    | _ => exact h.elim)
theorem pe_mtM {t : Mt} {nm : Str} {o e : Expr} {es : List Expr} {to : TE} {ta : TA} {apos cpos : Pos} (ht : mtOf nm = some t) (ho : PE X o to) (ha : PAn X (e :: es) ta) (hall : (e :: es).all noStar = true) (hs : notSuper o = true) (hline : (apos.endLine == cpos.line) = true) (hlen : (e :: es).length < 29) :
    PE X (.Call (.Attribute o nm apos) (e :: es) [] cpos) (fun σ H Q => to σ H fun x H1 => mtTy X.K t x H1 ∧ ta σ H1 fun xs H2 => rMt X.K t x xs H2 Q) := by
  unfold mtOf at ht
  split at ht
  · rename_i e1
    obtain rfl := Option.some.inj ht
    rw [e1]
    exact pe_bmM PySem.F.plainAttrs_list PySem.F.slot_list_append PySem.F.type_list_append mt_app (fun x H h => ty_l h (by simp)) ho ha hall hs hline hlen
  split at ht
  · rename_i e1
    obtain rfl := Option.some.inj ht
    rw [e1]
    exact pe_bmM PySem.F.plainAttrs_str PySem.F.slot_str_join PySem.F.type_str_join mt_joi (fun x H h => ty_s h (by simp)) ho ha hall hs hline hlen
  split at ht
  · rename_i e1
    obtain rfl := Option.some.inj ht
    rw [e1]
    exact pe_bmM PySem.F.plainAttrs_str PySem.F.slot_str_startswith PySem.F.type_str_startswith mt_sta (fun x H h => ty_s h (by simp)) ho ha hall hs hline hlen
  split at ht
  · rename_i e1
    obtain rfl := Option.some.inj ht
    rw [e1]
    exact pe_bmM PySem.F.plainAttrs_list PySem.F.slot_list_extend PySem.F.type_list_extend mt_ext (fun x H h => ty_l h (by simp)) ho ha hall hs hline hlen
  split at ht
  · rename_i e1
    obtain rfl := Option.some.inj ht
    rw [e1]
    exact pe_bmM PySem.F.plainAttrs_list PySem.F.slot_list_pop PySem.F.type_list_pop mt_popM (fun x H h => ty_l h (by simp)) ho ha hall hs hline hlen
  · cases ht
theorem pe_mt0M {t : Mt} {nm : Str} {o : Expr} {to : TE} {apos cpos : Pos} (ht : mt0Of nm = some t) (ho : PE X o to) (hs : notSuper o = true) (hline : (apos.endLine == cpos.line) = true) :
    PE X (.Call (.Attribute o nm apos) [] [] cpos) (fun σ H Q => to σ H fun x H1 => mtTy X.K t x H1 ∧ rMt X.K t x [] H1 Q) := by
  have go : ∀ {id : String}, PySem.Slot "list" nm id → typeOf (.builtin id) = pure (.type "method_descriptor") → MtR X id (rMt X.K t) → (t = .append ∨ t = .extend ∨ t = .pop ∨ t = .clear) → PE X (.Call (.Attribute o nm apos) [] [] cpos) (fun σ H Q => to σ H fun x H1 => mtTy X.K t x H1 ∧ rMt X.K t x [] H1 Q) := by
    intro id sl hy hm hk
    refine ⟨fun pins s σ H Q I h => ?_⟩
    refine wpAny_Call_method0_late (base_S hs) hline (thn (ho.run pins s σ H _ I h) fun v s1 ⟨x, H1, I1, r1, ty, q1⟩ => ?_)
    obtain ⟨h1, h2⟩ := tyV_is I1 r1 (ty_l ty hk)
    exact ⟨"list", id, PySem.F.plainAttrs_list, sl, hy, h1, h2, Calls.callWith_builtin rfl (PySem.evalArgs_none (hm pins s1 σ H1 x [] v [] Q I1 r1 .nil q1))⟩
  unfold mt0Of at ht
  split at ht
  · rename_i e1
    obtain rfl := Option.some.inj ht
    subst e1
    exact go PySem.F.slot_list_pop PySem.F.type_list_pop mt_popM (by simp)
  split at ht
  · rename_i e1
    obtain rfl := Option.some.inj ht
    subst e1
    exact go PySem.F.slot_list_clear PySem.F.type_list_clear mt_clr (by simp)
  · cases ht
/-- one argument -/
theorem pan_one {e : Expr} {t : TE} (h : PE X e t) (hs : noStar e = true) : PAn X [e] (fun σ H Q => t σ H fun x H1 => Q [x] H1) := by
  refine ⟨fun pos pins s σ H Q I hw => ?_⟩
  rw [star_cons hs]
  show wpAny _ _ (spliced ((false, eval e X.env) :: backTo pos (starEach [] X.env))) _ _ s
  exact Calls.spliced_cons (thn (h.run pins s σ H _ I hw) fun u s1 ⟨x, H1, I1, rx, q1⟩ => Calls.spliced_nil ⟨rfl, [x], H1, I1, .cons rx .nil, q1⟩)
theorem mt_joinD : MtR X "str.join" (fun x xs H Q => ∃ D acc, xs = [.ref D] ∧ H D = some (.lst acc) ∧ rMt X.K .join x [.ref D] H fun r H3 => H3 D = some (.lst acc) ∧ Q r (dropA H3 D)) := by
  intro pins s σ H x xs v us Q I rx rv h
  obtain ⟨D, acc, rfl, hD, q⟩ := h
  refine thn (mt_joi pins s σ H x [.ref D] v us _ I rx rv q) fun z s2 ⟨zv, H2, I2, rz, hD2, q2⟩ => ?_
  exact ⟨zv, dropA H2 D, Inv.drop I2 hD2, rz, q2⟩
theorem pe_joindM {o e : Expr} {to te : TE} {apos cpos : Pos} (ho : PE X o to) (he : PE X e te) (hst : noStar e = true) (hs : notSuper o = true) (hline : (apos.endLine == cpos.line) = true) :
    PE X (.Call (.Attribute o "join" apos) [e] [] cpos) (fun σ H Q => to σ H fun x H1 => (∃ a, x = .str a) ∧ te σ H1 fun y H2 => ∃ D acc, y = .ref D ∧ H2 D = some (.lst acc) ∧ rMt X.K .join x [.ref D] H2 fun r H3 => H3 D = some (.lst acc) ∧ Q r (dropA H3 D)) := by
  have z := pe_bmM (X := X) (ty := fun x _ => ∃ a, x = .str a) (apos := apos) (cpos := cpos) PySem.F.plainAttrs_str PySem.F.slot_str_join PySem.F.type_str_join (mt_joinD (X := X)) (fun x H ⟨a, e⟩ => by subst e; rfl) ho (pan_one he hst) (by rw [List.all_cons, hst]; rfl) hs hline (by show 1 < 29; decide)
  refine ⟨fun pins s σ H Q I h => ?_⟩
  -- the reading's one argument is the list of it
  have go := z
  refine wpAny_Call_method_late (base_S hs) ?_ hline rfl (thn (ho.run pins s σ H _ I h) fun v s1 ⟨x, H1, I1, r1, hy, q1⟩ => ?_)
  · rw [star_all (show [e].all noStar = true by rw [List.all_cons, hst]; rfl)]
    rfl
  · obtain ⟨a, rfl⟩ := hy
    obtain ⟨z1, z2⟩ := tyV_is I1 r1 (show tyV X.K "str" (.str a) H1 from rfl)
    refine ⟨"str", "str.join", PySem.F.plainAttrs_str, PySem.F.slot_str_join, PySem.F.type_str_join, z1, z2, ?_⟩
    rw [star_cons hst]
    refine Calls.callWith_builtin rfl (Calls.evalArgs_plain ?_)
    show wpAny _ _ (spliced ((false, eval e X.env) :: backTo cpos (starEach [] X.env))) _ _ s1
    refine Calls.spliced_cons (thn (he.run pins s1 σ H1 _ I1 q1) fun u s2 ⟨y, H2, I2, ry, D, acc, ey, hD, q2⟩ => Calls.spliced_nil ?_)
    subst ey
    exact mt_joinD pins s2 σ H2 (.str a) [.ref D] v [u] Q I2 r1 (.cons ry .nil) ⟨D, acc, rfl, hD, q2⟩
/-! ### isinstance -/
theorem ty_ld (c : Cnd X m W) {e : Expr} {t : Ty} (h : tyOf m e = some t) {pins : List (Addr × Obj)} {s : Shared} {σ : L2.St} {H : Hp} {Q : Value → Shared → Prop} (I : Inv X pins σ H s) (q : Q (.type t.nm) s) : wpAny (model X.prog X.w) X.A (eval e X.env) Q X.xe s ∧ noStar e = true := by
  unfold tyOf at h
  split at h
  · split at h
    · rename_i e1
      obtain rfl := Option.some.inj h
      obtain ⟨hg, hd, hn, hm, hv, _⟩ := c.get e1
      exact ⟨ld_blt I hg hm hv q hn hd, rfl⟩
    · cases h
  · cases h
theorem tys_ld (c : Cnd X m W) {pos : Pos} : ∀ {es : List Expr} {ts : List Ty}, tysOf m es = some ts → ∀ {pins : List (Addr × Obj)} {s : Shared} {σ : L2.St} {H : Hp} {Q : List Value → Shared → Prop}, Inv X pins σ H s → Q (ts.map fun t => .type t.nm) s →
    wpAny (model X.prog X.w) X.A (spliced (backTo pos (starEach es X.env))) Q X.xe s
  | [], ts, h, _, _, _, _, _, I, q => by
    obtain rfl := Option.some.inj h
    exact Calls.spliced_nil q
  | e :: es, ts, h, pins, s, σ, H, Q, I, q => by
    unfold tysOf at h
    split at h
    · rename_i t r e1 e2
      obtain rfl := Option.some.inj h
      have hn := (ty_ld c e1 (Q := fun _ _ => True) I trivial).2
      rw [star_cons hn]
      show wpAny _ _ (spliced ((false, eval e X.env) :: backTo pos (starEach es X.env))) _ _ s
      exact Calls.spliced_cons (ty_ld c e1 I (tys_ld c e2 I q)).1
    · cases h
theorem tys_len : ∀ {es : List Expr} {ts : List Ty}, tysOf m es = some ts → ts.length = es.length
  | [], ts, h => by
    obtain rfl := Option.some.inj h
    rfl
  | e :: es, ts, h => by
    unfold tysOf at h
    split at h
    · rename_i t r e1 e2
      obtain rfl := Option.some.inj h
      rw [List.length_cons, tys_len e2, List.length_cons]
    · cases h
theorem pe_isA1 (c : Cnd X m W) {x : Str} {a b : Expr} {t : Ty} {ta : TE} {p pos : Pos} (hx : m.get x = some .isi) (ha : PE X a ta) (hs : noStar a = true) (hb : tyOf m b = some t) : PE X (.Call (.Name x p) [a, b] [] pos) (fun σ H Q => ta σ H fun y H1 => rIsA X.K [t] y H1 Q) := by
  obtain ⟨hg, hd, hn, hm, hv⟩ := c.get hx
  refine ⟨fun pins s σ H Q I hw => ?_⟩
  have hnb := (ty_ld c hb (Q := fun _ _ => True) I trivial).2
  refine wpAny_Call_Name_kw (ld_blt I hg hm hv (PyProof.Rows.callWith_builtin1 ?_ (star_cons hs) (star_any (by rw [List.all_cons, hnb]; rfl))) hn hd)
  rw [star_cons hs, star_cons hnb]
  show wpAny _ _ (spliced ((false, eval a X.env) :: (false, eval b X.env) :: backTo pos (starEach [] X.env))) _ _ s
  refine Calls.spliced_cons (thn (ha.run pins s σ H _ I hw) fun u s1 ⟨y, H1, I1, ry, q1⟩ => Calls.spliced_cons (ty_ld c hb I1 (Calls.spliced_nil ?_)).1)
  obtain ⟨T, f, ty, hk, q⟩ := isA_of q1
  obtain ⟨P, Z, z, hy⟩ := kit_of I1 ry ty
  refine PySem.W.kia_one Z I1.kIn z (hk t) hy fun tk => ⟨.bl (f t), H1, I1.tok tk, rfl, ?_⟩
  have e : [t].any f = f t := by simp
  rw [e] at q
  exact q
theorem pe_isAT (c : Cnd X m W) {x : Str} {a : Expr} {es : List Expr} {ts : List Ty} {ta : TE} {p pos p2 : Pos} {k : Nat} (hx : m.get x = some .isi) (ha : PE X a ta) (hs : noStar a = true) (hb : tysOf m es = some ts) (hl : ts.length ≤ sizeLine) :
    PE X (.Call (.Name x p) [a, .Tuple es k p2] [] pos) (fun σ H Q => ta σ H fun y H1 => rIsA X.K ts y H1 Q) := by
  obtain ⟨hg, hd, hn, hm, hv⟩ := c.get hx
  refine ⟨fun pins s σ H Q I hw => ?_⟩
  refine wpAny_Call_Name_kw (ld_blt I hg hm hv (PyProof.Rows.callWith_builtin1 ?_ (star_cons hs) (star_any rfl)) hn hd)
  rw [star_cons hs]
  show wpAny _ _ (spliced ((false, eval a X.env) :: (false, eval (.Tuple es k p2) X.env) :: backTo pos (starEach [] X.env))) _ _ s
  refine Calls.spliced_cons (thn (ha.run pins s σ H _ I hw) fun u s1 ⟨y, H1, I1, ry, q1⟩ => Calls.spliced_cons (wpAny_Tuple_spliced (tys_ld c hb I1 ⟨by rw [List.length_map]; exact hl, Calls.spliced_nil ?_⟩)))
  obtain ⟨T, f, ty, hk, q⟩ := isA_of q1
  have I2 : Inv X pins σ H1 { s1 with heap := s1.heap.push { cls := .type "tuple", data := .seq (ts.map fun t => Value.type t.nm).toArray } } := I1.kept (t' := s1.toks) fun b o e => Heap.get?_push_of_some _ e
  obtain ⟨P, Z, z, hy⟩ := kit_of I2 ry ty
  exact PySem.W.kia_tup Z I2.kIn z (Heap.get?_push_size _ rfl) (kit_many hk ts) hy fun tk => ⟨.bl _, H1, I2.tok tk, rfl, q⟩
/-! ### in a written tuple -/
theorem in_run {neg : Bool} {op : CmpOp} (hop : op = if neg then .NotIn else .In) {y : V} {u : Value} {xs : List V} {us : List Value} {pins : List (Addr × Obj)} {s : Shared} {σ : L2.St} {H : Hp} {Q : VK} (I : Inv X pins σ H s) (ry : RelV y u) (rv : Vals xs us)
    (fy : flatV y = true) (fx : xs.all flatV = true) (q : Q (.bl (if neg then !inV y xs else inV y xs)) H) :
    wpAny (model X.prog X.w) X.A (compareOp op u (.ref s.heap.objs.size)) (EP X pins σ Q) X.xe { s with heap := s.heap.push { cls := .type "tuple", data := .seq us.toArray } } := by
  have I2 : Inv X pins σ H { s with heap := s.heap.push { cls := .type "tuple", data := .seq us.toArray } } := I.kept (t' := s.toks) fun b o e => Heap.get?_push_of_some _ e
  cases neg with
  | false =>
    subst hop
    refine SeqAt.in_tupleAt (eqU y) (IsTup.new s.heap us.toArray) (fun w hw => mem_eqAt ry fy rv fx w (by simpa using hw)) ⟨.bl _, H, I2, rfl, ?_⟩
    rw [show us.toArray.any (eqU y) = us.any (eqU y) by simp, any_eqU rv fx]
    exact q
  | true =>
    subst hop
    refine SeqAt.notIn_tupleAt (eqU y) (IsTup.new s.heap us.toArray) (fun w hw => mem_eqAt ry fy rv fx w (by simpa using hw)) ⟨.bl _, H, I2, rfl, ?_⟩
    rw [show us.toArray.any (eqU y) = us.any (eqU y) by simp, any_eqU rv fx]
    exact q
theorem pe_inTM {neg : Bool} {op : CmpOp} {a : Expr} {es : List Expr} {k : Nat} {p2 pos : Pos} {ta : TE} {te : TA} (hop : op = if neg then .NotIn else .In) (ha : PE X a ta) (he : PAn X es te) :
    PE X (.Compare a [op] [.Tuple es k p2] pos) (fun σ H Q => ta σ H fun x H1 => te σ H1 fun ys H2 => flatV x = true ∧ ys.all flatV = true ∧ ys.length ≤ sizeLine ∧ Q (.bl (if neg then !inV x ys else inV x ys)) H2) :=
  ⟨fun pins s σ H Q I h => wpAny_Compare1 (thn (ha.run pins s σ H _ I h) fun u s1 ⟨y, H1, I1, ry, q1⟩ => wpAny_Tuple_spliced (thn (he.run p2 pins s1 σ H1 _ I1 q1) fun us s2 ⟨_, xs, H2, I2, rv, f1, f2, hz, q2⟩ =>
    ⟨by rw [← rv.length]; exact hz, in_run hop I2 ry rv f1 f2 q2⟩)) rfl⟩
theorem in_runL {neg : Bool} {op : CmpOp} (hop : op = if neg then .NotIn else .In) {y : V} {u : Value} {xs : List V} {us : List Value} {pins : List (Addr × Obj)} {s : Shared} {σ : L2.St} {H : Hp} {Q : VK} (I : Inv X pins σ H s) (ry : RelV y u) (rv : Vals xs us)
    (fy : flatV y = true) (fx : xs.all flatV = true) (q : Q (.bl (if neg then !inV y xs else inV y xs)) H) :
    wpAny (model X.prog X.w) X.A (compareOp op u (.ref s.heap.objs.size)) (EP X pins σ Q) X.xe { s with heap := s.heap.push { cls := .type "list", data := .seq us.toArray } } := by
  have I2 : Inv X pins σ H { s with heap := s.heap.push { cls := .type "list", data := .seq us.toArray } } := I.kept (t' := s.toks) fun b o e => Heap.get?_push_of_some _ e
  have il : (s.heap.push { cls := .type "list", data := .seq us.toArray }).IsList s.heap.objs.size us.toArray := ⟨_, Heap.get?_push_size _ rfl, rfl, 0, rfl⟩
  cases neg with
  | false =>
    subst hop
    refine SeqAt.in_listAt (eqU y) il (fun w hw => mem_eqAt ry fy rv fx w (by simpa using hw)) ⟨.bl _, H, I2, rfl, ?_⟩
    rw [show us.toArray.any (eqU y) = us.any (eqU y) by simp, any_eqU rv fx]
    exact q
  | true =>
    subst hop
    refine SeqAt.notIn_listAt (eqU y) il (fun w hw => mem_eqAt ry fy rv fx w (by simpa using hw)) ⟨.bl _, H, I2, rfl, ?_⟩
    rw [show us.toArray.any (eqU y) = us.any (eqU y) by simp, any_eqU rv fx]
    exact q
theorem pe_inLM {neg : Bool} {op : CmpOp} {a : Expr} {es : List Expr} {p2 pos : Pos} {ta : TE} {te : TA} (hop : op = if neg then .NotIn else .In) (ha : PE X a ta) (he : PAn X es te) :
    PE X (.Compare a [op] [.List es p2] pos) (fun σ H Q => ta σ H fun x H1 => te σ H1 fun ys H2 => flatV x = true ∧ ys.all flatV = true ∧ ys.length ≤ sizeLine ∧ Q (.bl (if neg then !inV x ys else inV x ys)) H2) :=
  ⟨fun pins s σ H Q I h => wpAny_Compare1 (thn (ha.run pins s σ H _ I h) fun u s1 ⟨y, H1, I1, ry, q1⟩ => wpAny_List_spliced (thn (he.run p2 pins s1 σ H1 _ I1 q1) fun us s2 ⟨_, xs, H2, I2, rv, f1, f2, hz, q2⟩ =>
    ⟨by rw [← rv.length]; exact hz, in_runL hop I2 ry rv f1 f2 q2⟩)) rfl⟩
theorem pt_inLM {neg : Bool} {op : CmpOp} {a : Expr} {es : List Expr} {p2 pos : Pos} {ta : TE} {te : TA} (hop : op = if neg then .NotIn else .In) (ha : PE X a ta) (he : PAn X es te) :
    PT X (.Compare a [op] [.List es p2] pos) (fun σ H Q => ta σ H fun x H1 => te σ H1 fun ys H2 => flatV x = true ∧ ys.all flatV = true ∧ ys.length ≤ sizeLine ∧ Q (if neg then !inV x ys else inV x ys) H2) := by
  refine ⟨fun pins s σ H Q I h => wpAny_isTrue_Compare1 (thn (ha.run pins s σ H _ I h) fun u s1 ⟨y, H1, I1, ry, q1⟩ => wpAny_List_spliced (thn (he.run p2 pins s1 σ H1 _ I1 q1) fun us s2 ⟨_, xs, H2, I2, rv, f1, f2, hz, q2⟩ =>
    ⟨by rw [← rv.length]; exact hz, thn (in_runL (Q := fun z H3 => ∃ b, z = .bl b ∧ Q b H3) hop I2 ry rv f1 f2 ⟨_, rfl, q2⟩) fun z s3 ⟨zv, H3, I3, rz, b, eb, q3⟩ => ?_⟩)) rfl⟩
  subst eb
  obtain rfl : z = Value.bool b := rz
  exact wpAny_truthy_bool ⟨H3, I3, q3⟩
theorem pt_inTM {neg : Bool} {op : CmpOp} {a : Expr} {es : List Expr} {k : Nat} {p2 pos : Pos} {ta : TE} {te : TA} (hop : op = if neg then .NotIn else .In) (ha : PE X a ta) (he : PAn X es te) :
    PT X (.Compare a [op] [.Tuple es k p2] pos) (fun σ H Q => ta σ H fun x H1 => te σ H1 fun ys H2 => flatV x = true ∧ ys.all flatV = true ∧ ys.length ≤ sizeLine ∧ Q (if neg then !inV x ys else inV x ys) H2) := by
  refine ⟨fun pins s σ H Q I h => wpAny_isTrue_Compare1 (thn (ha.run pins s σ H _ I h) fun u s1 ⟨y, H1, I1, ry, q1⟩ => wpAny_Tuple_spliced (thn (he.run p2 pins s1 σ H1 _ I1 q1) fun us s2 ⟨_, xs, H2, I2, rv, f1, f2, hz, q2⟩ =>
    ⟨by rw [← rv.length]; exact hz, thn (in_run (Q := fun z H3 => ∃ b, z = .bl b ∧ Q b H3) hop I2 ry rv f1 f2 ⟨_, rfl, q2⟩) fun z s3 ⟨zv, H3, I3, rz, b, eb, q3⟩ => ?_⟩)) rfl⟩
  subst eb
  obtain rfl : z = Value.bool b := rz
  exact wpAny_truthy_bool ⟨H3, I3, q3⟩
end
end CW

namespace CW
open PySem PySem.Spec PyProof.Rows L2
section
variable {X : Cx} {m : Cm} {W : WX}
/-! ### what is walked -/
theorem pi_val {tg e : Expr} {t : TE} (h : PE X e t) : PI X tg e (fun σ H R => t σ H fun x H1 => iVal X.K x H1 R) := by
  refine ⟨fun pins s σ H R I hw => ?_⟩
  refine thn (h.run pins s σ H _ I hw) fun u s1 ⟨x, H1, I1, rx, q⟩ => ?_
  have k : ∀ {wi : TI} {R' : It → Hp → Prop} (e' : Expr), True := fun _ => trivial
  cases x with
  | str z =>
    obtain ⟨t, rfl⟩ := rx
    have q : R (Its z) H1 := q
    cases ha : z.cps.all (· < 128)
    · exact wpAny_pyIter_wide ha (pi_one (tk := s1.toks) I1 _ (turn_str _ z t "str_iterator" (.inr rfl)) ⟨_, Heap.get?_push_size _ rfl, rfl, rfl⟩ q)
    · exact wpAny_pyIter_ascii ha (pi_one (tk := s1.toks) I1 _ (turn_str _ z t "str_ascii_iterator" (.inl rfl)) ⟨_, Heap.get?_push_size _ rfl, rfl, rfl⟩ q)
  | ref a =>
    obtain rfl : u = Value.ref a := rx
    rcases q with ⟨⟨xs, hq⟩, q⟩ | ⟨⟨xs, hq⟩, q⟩
    · obtain ⟨its, rv, p, hz⟩ := I1.list hq
      exact wpAny_pyIter_list p.isList (pi_one (tk := s1.toks) I1 _ (turn_list a _) ⟨_, Heap.get?_push_size _ rfl, rfl, rfl⟩ q)
    · obtain ⟨its, rv, p, hz⟩ := I1.tuple hq
      exact wpAny_pyIter_tuple (show s1.heap.IsTuple a its.toArray from p) (pi_one (tk := s1.toks) I1 _ (turn_tuple a _) ⟨_, Heap.get?_push_size _ rfl, rfl, rfl⟩ q)
  | _ => exact q.elim
theorem pi_enumM {e : Expr} {t : TE} {p pos tpos : Pos} {elts : List Expr} {kk : Nat} (hg : Gl X "enumerate") (hm : X.mg "enumerate" = none) (h : PE X e t) (hs : noStar e = true) :
    PI X (.Tuple elts kk tpos) (.Call (.Name "enumerate" p) [e] [] pos) (fun σ H R => t σ H fun x H1 => ∃ l xs, [x] = [V.ref l] ∧ SqL X.K H1 l xs ∧ R (Ite X.K l) H1) := pi_enum hg hm (pan_one h hs).pa (star_cons hs)
/-! ### targets -/
theorem pgs_ok {f : Expr → Option E} (hf : ∀ e a, f e = some a → PG X e (wG X.K W a)) : ∀ {es : List Expr} {a : E}, mapE f es = some a → PGs X es (wGs X.K W a) ∧ (assignEach es X.env).length = es.length ∧ (assignEach es X.env).findIdx? (·.1) = none
  | [], a, h => by
    obtain rfl := Option.some.inj h
    exact ⟨pgs_nil, rfl, rfl⟩
  | e :: es, a, h => by
    unfold mapE at h
    split at h
    · rename_i hn
      split at h
      · rename_i a1 r1 e1 e2
        obtain rfl := Option.some.inj h
        obtain ⟨ih, h1, h2⟩ := pgs_ok hf e2
        have ea : assignEach (e :: es) X.env = (false, assign e X.env) :: assignEach es X.env := by cases e <;> first | rfl | cases hn
        refine ⟨pgs_cons (hf e a1 e1) ih (by rw [ea]; rfl), by rw [ea, List.length_cons, h1, List.length_cons], ?_⟩
        rw [ea, List.findIdx?_cons]
        simp only [Bool.false_eq_true, if_false]
        rw [h2]; rfl
      · cases h
    · cases h
theorem lenE_ok {f : Expr → Option E} : ∀ {es : List Expr} {a : E}, mapE f es = some a → lenE a = es.length
  | [], a, h => by
    obtain rfl := Option.some.inj h
    rfl
  | e :: es, a, h => by
    unfold mapE at h
    split at h
    · split at h
      · rename_i a1 r1 e1 e2
        obtain rfl := Option.some.inj h
        show lenE r1 + 1 = _
        rw [lenE_ok e2, List.length_cons]
      · cases h
    · cases h
theorem pg_tupM {f : Expr → Option E} (hf : ∀ e a, f e = some a → PG X e (wG X.K W a)) {es : List Expr} {a : E} {k : Nat} {pos : Pos} (hc : X.calm = true) (h : mapE f es = some a) : PG X (.Tuple es k pos) (wG X.K W (.tup a)) := by
  obtain ⟨h1, h2, h3⟩ := pgs_ok hf h
  have z := pg_tup (k := k) (pos := pos) hc h1 (h2.trans (lenE_ok h).symm) h3
  exact z
end
end CW

namespace CW
open PySem PySem.Spec PyProof.Rows L2
def special : E → Bool
  | .not _ => true | .and _ _ => true | .or _ _ => true | .cmp _ _ _ => true | .cmp2 _ _ _ _ _ => true | .inT _ _ _ => true
  | _ => false
theorem pt_any {X : Cx} {W : WX} {e : Expr} {a : E} (h : PE X e (wE X.K W a)) (hp : plainTest e = true) (hs : special a = false) : PT X e (wT X.K W a) := by
  have z := pt_tru h hp
  have no : ∀ {b : E}, wT X.K W b = (fun _ _ _ => False) → PT X e (wT X.K W b) := fun {b} eb => by rw [eb]; exact ⟨fun _ _ _ _ _ _ h => h.elim⟩
  cases a with
  | c v => exact z
  | v i =>
    refine ⟨fun pins s σ H Q I hw => z.run pins s σ H Q I ?_⟩
    show (match σ[i]? with | some (some x) => rTru X.K x H Q | _ => False)
    exact hw
  | call sp as ks ar => exact z
  | bi b as => exact z
  | bid b l => exact z
  | mt m o as => exact z
  | isA a ts => exact z
  | sub a i => exact z
  | not a => cases hs
  | and a b => cases hs
  | or a b => cases hs
  | cmp op a b => cases hs
  | cmp2 op op' a b c => cases hs
  | inT neg a es => cases hs
  | _ => exact no rfl
def isBoolOp : Expr → Bool
  | .BoolOp .. => true
  | _ => false
/-- the reading is right -/
structure Rt (X : Cx) (W : WX) (e : Expr) (a : E) : Prop where
  pe : PE X e (wE X.K W a)
  pt : PT X e (wT X.K W a)
  pw : isBoolOp e = true → PW X e (wT X.K W a)
theorem Rt.plain {X : Cx} {W : WX} {e : Expr} {a : E} (h : PE X e (wE X.K W a)) (hp : plainTest e = true) (hs : special a = false) : Rt X W e a :=
  ⟨h, pt_any h hp hs, fun z => by cases e <;> first | (cases z; done) | (cases hp; done)⟩
/-- a name of the block -/
theorem Cnd.blk {X : Cx} {m : Cm} {W : WX} (c : Cnd X m W) (scope : Scope) (s : Shared) (H : Hp) (C : Addr) (cl : List (Str × Addr)) (fp : List Addr) : Cnd (X.blk s H scope (compEnvC scope cl C X.env) fp) (m.blk scope) W0 where
  N := c.N
  nd := c.nd
  sc := by
    show relS scope X.env.scope = relS scope m.sc
    rw [c.sc]
  fn := rfl
  calm := c.calm
  gd := c.gd
  un := c.un
  tk := takes0
  po := PassesOwn.never
  gl := fun p hp => by
    have z := c.gl p hp
    obtain ⟨x, g⟩ := p
    cases g <;> exact z

/-- the comprehension's parts -/
structure LcOk (X : Cx) (W : WX) (elt tg iter : Expr) (ifs : List Expr) (scope : Scope) (own : List (Str × Nat)) (e t it cs : E) : Prop where
  hs : ∀ x, foldedSetIterable iter X.env x = pure x
  ok : BlkOk X.N X.env.scope scope own
  hi : PI X tg iter (wI X.K W it)
  hg : ∀ (s : Shared) (H : Hp) (C : Addr) (cl : List (Str × Addr)) (fp : List Addr), PG (X.blk s H scope (compEnvC scope cl C X.env) fp) tg (wG X.K W0 t)
  ht : ∀ (s : Shared) (H : Hp) (C : Addr) (cl : List (Str × Addr)) (fp : List Addr), PTs (X.blk s H scope (compEnvC scope cl C X.env) fp) ifs (wC X.K W0 cs)
  he : ∀ (s : Shared) (H : Hp) (C : Addr) (cl : List (Str × Addr)) (fp : List Addr), PE (X.blk s H scope (compEnvC scope cl C X.env) fp) elt (wE X.K W0 e)
def GoodE (n : Nat) : Prop := ∀ (m : Cm) (e : Expr) (a : E), compE n m e = some a → ∀ (X : Cx) (W : WX), Cnd X m W → Rt X W e a
def GoodB (n : Nat) : Prop := ∀ (m : Cm) (b : Bi) (as : List Expr) (ks : List Keyword) (a : E), compB n m b as ks = some a → ∀ (X : Cx) (W : WX), Cnd X m W → ∀ (x : Str) (p pos : Pos), Gl X x → (x == ("__debug__" : Str)) = false → x ≠ "__name__" → X.mg x = none → bootBuiltins x = some b.val →
  PE X (.Call (.Name x p) as ks pos) (wE X.K W a) ∧ special a = false
def GoodG (n : Nat) : Prop := ∀ (m : Cm) (e : Expr) (a : E), compG n m e = some a → ∀ (X : Cx) (W : WX), Cnd X m W → PG X e (wG X.K W a)
def GoodI (n : Nat) : Prop := ∀ (m : Cm) (tg e : Expr) (a : E), compI n m tg e = some a → ∀ (X : Cx) (W : WX), Cnd X m W → PI X tg e (wI X.K W a)
theorem noStar_of {n : Nat} {m : Cm} {e : Expr} {a : E} (h : compE n m e = some a) : noStar e = true := by
  cases n with
  | zero => simp only [compE] at h; cases h
  | succ n =>
    cases e <;> first | rfl | (simp only [compE] at h; cases h)
theorem map_some {α β : Type} {f : α → β} {o : Option α} {b : β} (h : o.map f = some b) : ∃ a, o = some a ∧ f a = b := by
  cases o with
  | none => cases h
  | some a => exact ⟨a, rfl, Option.some.inj h⟩
theorem lcOk {n : Nat} (gE : GoodE n) (gG : GoodG n) (gI : GoodI n) {X : Cx} {m : Cm} {W : WX} (c : Cnd X m W) {elt tg iter : Expr} {ifs : List Expr} {scope : Scope} {e t it cs : E} (h1 : (notSet iter && blkC m.N m.sc scope (ownOf m.N scope) && decide (ifs.length ≤ 1)) = true)
    (h2 : compI n m tg iter = some it) (h3 : compG n (m.blk scope) tg = some t) (h4 : mapE (compE n (m.blk scope)) ifs = some cs) (h5 : compE n (m.blk scope) elt = some e) : LcOk X W elt tg iter ifs scope (ownOf m.N scope) e t it cs := by
  simp only [Bool.and_eq_true, decide_eq_true_eq] at h1
  obtain ⟨⟨n1, n2⟩, n3⟩ := h1
  refine ⟨folded_no (by cases iter <;> first | rfl | cases n1), ?_, gI m tg iter it h2 X W c, fun s H C cl fp => gG _ _ _ h3 _ _ (c.blk scope s H C cl fp), fun s H C cl fp => ?_, fun s H C cl fp => (gE _ _ _ h5 _ _ (c.blk scope s H C cl fp)).pe⟩
  · rw [c.N, c.sc]
    exact blkOk_by n2
  · cases ifs with
    | nil =>
      obtain rfl := Option.some.inj h4
      exact pts_nil
    | cons q r =>
      cases r with
      | nil =>
        unfold mapE at h4
        split at h4
        · split at h4
          · rename_i a1 r1 e1 e2
            obtain rfl := Option.some.inj h4
            exact pts_one (gE _ _ _ e1 _ _ (c.blk scope s H C cl fp)).pt
          · cases h4
        · cases h4
      | cons _ _ => simp at n3
theorem goodE {n : Nat} (gE : GoodE n) (gB : GoodB n) (gG : GoodG n) (gI : GoodI n) : GoodE (n + 1) := by
  intro m e a h X W c
  have ih : ∀ e a, compE n m e = some a → PE X e (wE X.K W a) := fun e a h => (gE m e a h X W c).pe
  unfold compE at h
  split at h
  · obtain rfl := Option.some.inj h
    exact .plain pe_int rfl rfl
  · obtain rfl := Option.some.inj h
    exact .plain pe_str rfl rfl
  · obtain rfl := Option.some.inj h
    exact .plain pe_bl rfl rfl
  · obtain rfl := Option.some.inj h
    exact .plain pe_non rfl rfl
  · -- a name
    unfold Cm.name at h
    split at h
    · cases h
    · rename_i no
      have no' := (Bool.not_eq_true _).mp no
      split at h
      · rename_i hv
        obtain ⟨i, hi, rfl⟩ := map_some h
        refine .plain ⟨fun pins s σ H Q I hw => ?_⟩ rfl rfl
        have hw : (match σ[i]? with | some (some x) => Q x H | _ => False) := hw
        split at hw
        · rename_i x ex
          exact (pe_var (c.slot hi) (c.vis hv) (odd_no no').1 (odd_no no').2).run pins s σ H Q I ⟨x, ex, hw⟩
        · exact hw.elim
      · split at h
        · rename_i v eg
          obtain rfl := Option.some.inj h
          obtain ⟨hg, hd, _, u, hm, r⟩ := c.get eg
          exact .plain (pe_glob hg hm r hd) rfl rfl
        · cases h
  · split at h
    · rename_i e1 e2
      obtain rfl := Option.some.inj h
      exact .plain (pe_op (bin_ok _) (ih _ _ e1) (ih _ _ e2)) rfl rfl
    · cases h
  · obtain ⟨a1, e1, rfl⟩ := map_some h
    have z := gE m _ a1 e1 X W c
    exact ⟨pe_notM z.pe, pt_not z.pt, fun q => nomatch q⟩
  · obtain ⟨a1, e1, rfl⟩ := map_some h
    rename_i op _ _ hop
    refine .plain (pe_un (un_ok _) (ih _ _ e1)) ?_ rfl
    cases op <;> first | rfl | exact absurd rfl hop
  · have z := gE m _ a h X W c
    exact ⟨pe_one z.pe, (pw_and1 z.pt).pt, fun _ => pw_and1 z.pt⟩
  · have z := gE m _ a h X W c
    exact ⟨pe_one z.pe, (pw_or1 z.pt).pt, fun _ => pw_or1 z.pt⟩
  · split at h
    · rename_i e1 e2
      obtain rfl := Option.some.inj h
      have z1 := gE m _ _ e1 X W c
      have z2 := gE m _ _ e2 X W c
      exact ⟨pe_andM z1.pe z2.pe, (pw_and z1.pt (z2.pw rfl)).pt, fun _ => pw_and z1.pt (z2.pw rfl)⟩
    · cases h
  · split at h
    · rename_i e1 e2
      obtain rfl := Option.some.inj h
      have z1 := gE m _ _ e1 X W c
      have z2 := gE m _ _ e2 X W c
      exact ⟨pe_orM z1.pe z2.pe, (pw_or z1.pt (z2.pw rfl)).pt, fun _ => pw_or z1.pt (z2.pw rfl)⟩
    · cases h
  · split at h
    · rename_i e1 e2 e3
      obtain rfl := Option.some.inj h
      exact ⟨pe_ifExp (gE m _ _ e1 X W c).pt (ih _ _ e2) (ih _ _ e3), ⟨fun _ _ _ _ _ _ h => h.elim⟩, fun q => nomatch q⟩
    · cases h
  · split at h
    · rename_i e1 e2
      obtain rfl := Option.some.inj h
      have z := args_ok ih e2
      exact ⟨pe_inTM (neg := false) rfl (ih _ _ e1) z.1, pt_inTM (neg := false) rfl (ih _ _ e1) z.1, fun q => nomatch q⟩
    · cases h
  · split at h
    · rename_i e1 e2
      obtain rfl := Option.some.inj h
      have z := args_ok ih e2
      exact ⟨pe_inTM (neg := true) rfl (ih _ _ e1) z.1, pt_inTM (neg := true) rfl (ih _ _ e1) z.1, fun q => nomatch q⟩
    · cases h
  · split at h
    · rename_i e1 e2
      obtain rfl := Option.some.inj h
      have z := args_ok ih e2
      exact ⟨pe_inLM (neg := false) rfl (ih _ _ e1) z.1, pt_inLM (neg := false) rfl (ih _ _ e1) z.1, fun q => nomatch q⟩
    · cases h
  · split at h
    · rename_i e1 e2
      obtain rfl := Option.some.inj h
      have z := args_ok ih e2
      exact ⟨pe_inLM (neg := true) rfl (ih _ _ e1) z.1, pt_inLM (neg := true) rfl (ih _ _ e1) z.1, fun q => nomatch q⟩
    · cases h
  · split at h
    · cases h
    · rename_i hm
      have hm' := (Bool.not_eq_true _).mp hm
      split at h
      · rename_i e1 e2
        obtain rfl := Option.some.inj h
        exact ⟨pe_cmpR (cmp_ok c.un _) (ih _ _ e1) (ih _ _ e2) hm', pt_cmpM (cmp_ok c.un _) (ih _ _ e1) (ih _ _ e2) hm', fun q => nomatch q⟩
      · cases h
  · split at h
    · cases h
    · rename_i hm
      have hm' := (Bool.not_eq_true _).mp hm
      split at h
      · rename_i e1 e2 e3
        obtain rfl := Option.some.inj h
        exact ⟨pe_chainM (cmp_ok c.un _) (cmp_ok c.un _) (ih _ _ e1) (ih _ _ e2) (ih _ _ e3) hm', pt_chainM (cmp_ok c.un _) (cmp_ok c.un _) (ih _ _ e1) (ih _ _ e2) (ih _ _ e3) hm', fun q => nomatch q⟩
      · cases h
  · obtain ⟨a1, e1, rfl⟩ := map_some h
    exact .plain (pe_lst (args_ok ih e1).1.pa) rfl rfl
  · obtain ⟨a1, e1, rfl⟩ := map_some h
    exact .plain (pe_tup (args_ok ih e1).1.pa) rfl rfl
  · split at h
    · rename_i hl
      split at h
      · rename_i e1 e2
        obtain rfl := Option.some.inj h
        exact .plain (pe_dctM ih hl.1 hl.2 e1 e2) rfl rfl
      · cases h
    · cases h
  · split at h
    · rename_i e1 e2 e3
      obtain rfl := Option.some.inj h
      exact .plain (pe_slice slc_ok (ih _ _ e1) (po_okM ih e2) (po_okM ih e3)) rfl rfl
    · cases h
  · obtain ⟨a1, e1, rfl⟩ := map_some h
    exact .plain (pe_revL (ih _ _ e1)) rfl rfl
  · split at h
    · rename_i hn
      split at h
      · rename_i e1 e2
        obtain rfl := Option.some.inj h
        exact .plain (pe_ix (sub_ok (by have := c.un; omega)) (ih _ _ e1) (ih _ _ e2) (ix_plain hn)) rfl rfl
      · cases h
    · cases h
  · split at h
    · rename_i eg
      split at h
      · rename_i e1 e2 e3
        obtain rfl := Option.some.inj h
        exact .plain (pe_callG c eg (args_ok ih e1) (kws_ok ih e2) e3) rfl rfl
      · cases h
    · rename_i eg
      obtain ⟨hg, hd, hn, hm, hv⟩ := c.get eg
      have z := fun p pos => gB m _ _ _ _ h X W c _ p pos hg hd hn hm hv
      exact .plain (z _ _).1 rfl (z ⟨0, 0, 0, 0⟩ ⟨0, 0, 0, 0⟩).2
    · rename_i eg
      obtain ⟨hg, hd, hn, hm, hv, hb⟩ := c.get eg
      have z := fun p pos => gB m _ _ _ _ h X W c _ p pos hg hd hn hm (by rw [hv, hb _ rfl])
      exact .plain (z _ _).1 rfl (z ⟨0, 0, 0, 0⟩ ⟨0, 0, 0, 0⟩).2
    · rename_i eg
      split at h
      · split at h
        · rename_i hl
          split at h
          · rename_i e1 e2
            obtain rfl := Option.some.inj h
            have hz : (sizeLine : Nat) = 16777216 := sizeLine_eq
            exact .plain (pe_isAT c eg (ih _ _ e1) (noStar_of e1) e2 (by rw [tys_len e2]; omega)) rfl rfl
          · cases h
        · cases h
      · split at h
        · rename_i e1 e2
          obtain rfl := Option.some.inj h
          exact .plain (pe_isA1 c eg (ih _ _ e1) (noStar_of e1) e2) rfl rfl
        · cases h
      · cases h
    · cases h
  · split at h
    · rename_i hc
      simp only [Bool.and_eq_true, decide_eq_true_eq] at hc
      obtain ⟨⟨h1, h2⟩, h3⟩ := hc
      split at h
      · rename_i e1 e2
        obtain rfl := Option.some.inj h
        subst h3
        exact .plain (pe_joindM (ih _ _ e1) (ih _ _ e2) rfl h1 h2) rfl rfl
      · cases h
    · cases h
  · split at h
    · rename_i hc
      simp only [Bool.and_eq_true] at hc
      split at h
      · rename_i e1 e2
        obtain rfl := Option.some.inj h
        exact .plain (pe_mt0M e1 (ih _ _ e2) hc.1 hc.2) rfl rfl
      · cases h
    · cases h
  · split at h
    · rename_i hc
      simp only [Bool.and_eq_true, decide_eq_true_eq] at hc
      obtain ⟨⟨h1, h2⟩, h3⟩ := hc
      split at h
      · rename_i e1 e2 e3
        obtain rfl := Option.some.inj h
        have z := args_ok ih e3
        exact .plain (pe_mtM e1 (ih _ _ e2) z.1 z.2.1 h1 h2 h3) rfl rfl
      · cases h
    · cases h
  · split at h
    · rename_i hc
      split at h
      · rename_i e1 e2 e3 e4
        obtain rfl := Option.some.inj h
        have z := lcOk gE gG gI c hc e1 e2 e3 e4
        exact .plain (pe_lc c.calm (by rw [c.N]; exact c.nd) z.hi z.ok z.hg z.ht z.he z.hs) rfl rfl
      · cases h
    · cases h
  · cases h

theorem goodB {n : Nat} (gE : GoodE n) : GoodB (n + 1) := by
  intro m b as ks a h X W c x p pos hg hd hn hm hv
  have ih : ∀ e a, compE n m e = some a → PE X e (wE X.K W a) := fun e a h => (gE m e a h X W c).pe
  unfold compB at h
  split at h
  · obtain ⟨a1, e1, rfl⟩ := map_some h
    exact ⟨pe_bidM c hg hd hn hm hv (ih _ _ e1) rfl, rfl⟩
  · obtain ⟨a1, e1, rfl⟩ := map_some h
    have z := args_ok ih e1
    exact ⟨pe_biM c hg hd hn hm hv z.1 z.2.1, rfl⟩
  · cases h
theorem goodG {n : Nat} (gE : GoodE n) (gG : GoodG n) : GoodG (n + 1) := by
  intro m e a h X W c
  have ih : ∀ e a, compE n m e = some a → PE X e (wE X.K W a) := fun e a h => (gE m e a h X W c).pe
  unfold compG at h
  split at h
  · split at h
    · rename_i hc
      rw [Bool.and_eq_true] at hc
      obtain ⟨i, hi, rfl⟩ := map_some h
      have hs := hc.1
      unfold Cm.stor at hs
      split at hs
      · rename_i hl
        rw [← c.sc] at hl
        exact pg_name (by rw [c.N]; exact c.nd) (c.slot hi) (.inl hl) (.inr hl)
      · rename_i hl
        rw [← c.sc] at hl
        exact pg_name (by rw [c.N]; exact c.nd) (c.slot hi) (.inr hl) (.inl (by rw [c.fn]; exact hs))
      · cases hs
    · cases h
  · rename_i o i p
    split at h
    · rename_i hn
      split at h
      · rename_i e1 e2
        obtain rfl := Option.some.inj h
        exact pg_sub (ih _ _ e1) (ih _ _ e2) (set_ok (by have := c.un; omega)) (fun v => by cases i <;> first | rfl | cases hn)
      · cases h
    · cases h
  · obtain ⟨a1, e1, rfl⟩ := map_some h
    exact pg_tupM (fun e a h => gG m e a h X W c) c.calm e1
  · cases h
theorem iv_any {X : Cx} {W : WX} {tg e : Expr} {a : E} (h : PE X e (wE X.K W a)) (hs : match a with | .v _ => True | .c _ => True | .call _ _ _ _ => True | .lst _ => True | .tup _ => True | _ => False) : PI X tg e (wI X.K W a) := by
  have z := pi_val (tg := tg) h
  cases a with
  | v i =>
    refine ⟨fun pins s σ H R I hw => z.run pins s σ H R I ?_⟩
    show (match σ[i]? with | some (some x) => iVal X.K x H R | _ => False)
    exact hw
  | c v => exact z
  | call sp as ks ar => exact z
  | lst as => exact z
  | tup as => exact z
  | _ => exact hs.elim
theorem goodI {n : Nat} (gE : GoodE n) : GoodI (n + 1) := by
  intro m tg e a h X W c
  have ih : ∀ e a, compE n m e = some a → PE X e (wE X.K W a) := fun e a h => (gE m e a h X W c).pe
  unfold compI at h
  split at h
  · split at h
    · rename_i eg
      obtain ⟨hg, hd, hn, rfl, hm⟩ := c.get eg
      split at h
      · obtain ⟨a1, e1, rfl⟩ := map_some h
        have z := args_ok ih e1
        have zs := z.2.1
        simp only [List.all_cons, List.all_nil, Bool.and_true] at zs
        exact pi_range1 hg hm z.1.pa (star_cons zs)
      · obtain ⟨a1, e1, rfl⟩ := map_some h
        have z := args_ok ih e1
        have zs := z.2.1
        simp only [List.all_cons, List.all_nil, Bool.and_true, Bool.and_eq_true] at zs
        exact pi_range2 hg hm z.1.pa (by rw [star_cons zs.1, star_cons zs.2]; rfl) (star_cons zs.2)
      · obtain ⟨a1, e1, rfl⟩ := map_some h
        have z := args_ok ih e1
        have zs := z.2.1
        rw [List.all_cons, Bool.and_eq_true] at zs
        exact pi_range3 hg hm z.1.pa (star_cons zs.1) (star_any zs.2)
      · cases h
    · rename_i eg
      obtain ⟨hg, hd, hn, rfl, hm⟩ := c.get eg
      split at h
      · split at h
        · rename_i hs
          obtain ⟨a1, e1, rfl⟩ := map_some h
          exact pi_enumM hg hm (ih _ _ e1) hs
        · cases h
      · cases h
    · rename_i eg
      have z := ih _ _ h
      refine iv_any z ?_
      cases n with
      | zero => simp only [compE] at h; cases h
      | succ k =>
        simp only [compE, eg] at h
        split at h
        · obtain rfl := Option.some.inj h; trivial
        · cases h
    · obtain ⟨a1, e1, rfl⟩ := map_some h
      exact pi_val (ih _ _ e1)
    · obtain ⟨a1, e1, rfl⟩ := map_some h
      exact pi_val (ih _ _ e1)
    · cases h
  · refine iv_any (ih _ _ h) ?_
    cases n with
    | zero => simp only [compE] at h; cases h
    | succ k =>
      simp only [compE, Cm.name] at h
      split at h
      · cases h
      · split at h
        · obtain ⟨i, _, rfl⟩ := map_some h; trivial
        · split at h
          · obtain rfl := Option.some.inj h; trivial
          · cases h
  · obtain rfl := Option.some.inj h
    exact iv_any (a := .c (.str _)) pe_str trivial
  · obtain ⟨a1, e1, rfl⟩ := map_some h
    exact iv_any (a := .lst a1) (pe_lst (args_ok ih e1).1.pa) trivial
  · obtain ⟨a1, e1, rfl⟩ := map_some h
    exact iv_any (a := .tup a1) (pe_tup (args_ok ih e1).1.pa) trivial
  · obtain ⟨a1, e1, rfl⟩ := map_some h
    exact pi_val (ih _ _ e1)
  · obtain ⟨a1, e1, rfl⟩ := map_some h
    exact pi_val (ih _ _ e1)
  · obtain ⟨a1, e1, rfl⟩ := map_some h
    exact pi_val (ih _ _ e1)
  · cases h
theorem good : ∀ n, GoodE n ∧ GoodB n ∧ GoodG n ∧ GoodI n
  | 0 => ⟨fun m e a h => (nomatch (show (none : Option E) = some a from h)), fun m b as ks a h => (nomatch (show (none : Option E) = some a from h)), fun m e a h => (nomatch (show (none : Option E) = some a from h)), fun m tg e a h => (nomatch (show (none : Option E) = some a from h))⟩
  | n + 1 => let ⟨a, b, c, d⟩ := good n; ⟨goodE a b c d, goodB a, goodG a c, goodI a⟩
end CW

namespace CW
open PySem PySem.Spec PyProof.Rows L2
/-! ## 9. Statements -/
section
variable {X : Cx} {m : Cm} {W : WX}
theorem goodE' (n : Nat) : GoodE n := (good n).1
theorem goodG' (n : Nat) : GoodG n := (good n).2.2.1
theorem goodI' (n : Nat) : GoodI n := (good n).2.2.2
theorem lc_inv {n : Nat} {elt : Expr} {gens : List Comprehension} {scope : Scope} {pos : Pos} {a : E} (h : compE (n + 1) m (.ListComp elt gens scope pos) = some a) : ∃ tg iter ifs e t it cs, gens = [⟨tg, iter, ifs, 0⟩] ∧ a = .lc e t it cs ((ownOf m.N scope).map (·.2)) ∧
    (notSet iter && blkC m.N m.sc scope (ownOf m.N scope) && decide (ifs.length ≤ 1)) = true ∧ compI n m tg iter = some it ∧ compG n (m.blk scope) tg = some t ∧ mapE (compE n (m.blk scope)) ifs = some cs ∧ compE n (m.blk scope) elt = some e := by
  unfold compE at h
  split at h
  all_goals first | (rename_i q; cases q; done) | (cases h; done) | skip
  rename_i q
  cases q
  split at h
  · rename_i hc
    split at h
    · rename_i e1 e2 e3 e4
      obtain rfl := Option.some.inj h
      exact ⟨_, _, _, _, _, _, _, rfl, rfl, hc, e1, e2, e3, e4⟩
    · cases h
  · cases h
/-- name = a comprehension: stored within its block, or behind it -/
theorem ps_lcM (c : Cnd X m W) {n i : Nat} {x : Str} {px spos : Pos} {e : Expr} {a : E} (hs : m.stor x = true) (hi : ixOf x m.N = some i) (he : compE n m e = some a) : PS X (.Assign [.Name x px] e spos) (tAsg (wE X.K W a) (gName i)) := by
  have nd : X.N.Nodup := by rw [c.N]; exact c.nd
  have ld : Loc X.env.scope x ∧ (X.fn x = true ∨ X.env.scope.names.lookup x = some .local) := by
    unfold Cm.stor at hs
    split at hs
    · rename_i hl
      rw [← c.sc] at hl
      exact ⟨.inl hl, .inr hl⟩
    · rename_i hl
      rw [← c.sc] at hl
      exact ⟨.inr hl, .inl (by rw [c.fn]; exact hs)⟩
    · cases hs
  have pe := (goodE' n m e a he X W c).pe
  by_cases hc : isComp e = false
  · exact ps_set nd (c.slot hi) ld.1 pe (swaps_no hc) ld.2
  · cases n with
    | zero => simp only [compE] at he; cases he
    | succ n =>
      cases e with
      | ListComp elt gens scope pos =>
        have hb : swapsWith (.ListComp elt gens scope pos) (some (.Name x px)) spos.line X.env = pure (X.env.blockKind == .function && X.env.kindOf x == some .local && px.line == (Expr.ListComp elt gens scope pos).pos.line && !(scope.names.any fun (n, k) => n == x && (k == .local || k == .cell))) := rfl
        generalize hz : (X.env.blockKind == .function && X.env.kindOf x == some .local && px.line == (Expr.ListComp elt gens scope pos).pos.line && !(scope.names.any fun (n, k) => n == x && (k == .local || k == .cell))) = b at hb
        cases b with
        | false => exact ps_set nd (c.slot hi) ld.1 pe hb ld.2
        | true =>
          have hl : X.env.scope.names.lookup x = some .local := by
            simp only [Bool.and_eq_true, beq_iff_eq] at hz
            exact hz.1.1.2
          obtain ⟨tg, iter, ifs, e1, t1, it1, cs1, rfl, rfl, h1, h2, h3, h4, h5⟩ := lc_inv he
          have z := lcOk (goodE' n) (goodG' n) (goodI' n) c h1 h2 h3 h4 h5
          exact ps_setLc c.calm nd (c.slot hi) hl hb z.hi z.ok z.hg z.ht z.he z.hs
      | SetComp a b c d => unfold compE at he; split at he <;> first | (cases he; done) | (rename_i q; cases q; done)
      | DictComp a b c d f => unfold compE at he; split at he <;> first | (cases he; done) | (rename_i q; cases q; done)
      | _ => exact absurd rfl hc

theorem sole_no {t e : Expr} {l : Nat} {env : Env} (h : isComp e = false) : swapsWithSole [t] e l env = pure false := swaps_no h
theorem sw_none {ts : List Expr} {k : Nat} {p : Pos} {e : Expr} {env : Env} (h : isTup e = false) : swappedStores [.Tuple ts k p] e env = pure none := by
  cases e <;> first | rfl | cases h
theorem sw_pure {ts vs : List Expr} {k k2 : Nat} {p p2 : Pos} {env : Env} {r : Option (List Str)} (h : swPure env.scope ts vs = some r) : swappedStores [.Tuple ts k p] (.Tuple vs k2 p2) env = pure r := by
  unfold swPure at h
  split at h
  · rename_i e
    cases h
    exact if_pos e
  · rename_i e
    refine Eq.trans (if_neg e) ?_
    split at h
    · rename_i e2
      cases h
      exact if_pos e2
    · rename_i e2
      refine Eq.trans (if_neg e2) ?_
      dsimp only at h
      split at h
      · rename_i e3
        cases h
        exact if_pos e3
      · rename_i e3
        refine Eq.trans (if_neg e3) ?_
        split at h
        · rename_i e4
          cases h
          exact if_pos e4
        · rename_i e4
          refine Eq.trans (if_neg e4) ?_
          split at h
          · cases h
          · rename_i e5
            cases h
            exact if_neg e5
theorem Cnd.loc (c : Cnd X m W) {x : Str} (h : m.loc x = true) : X.env.scope.names.lookup x = some .local := by
  rw [c.sc]
  unfold Cm.loc at h
  split at h
  · assumption
  · cases h
theorem goodS : ∀ n : Nat, (∀ (m : Cm) (st : Stmt) (a : S), compS n m st = some a → ∀ (X : Cx) (W : WX), Cnd X m W → PS X st (wS X.K W a)) ∧ (∀ (m : Cm) (ss : List Stmt) (a : S), compSs n m ss = some a → ∀ (X : Cx) (W : WX), Cnd X m W → PSs X ss (wS X.K W a))
  | 0 => ⟨fun m st a h => (nomatch (show (none : Option S) = some a from h)), fun m ss a h => (nomatch (show (none : Option S) = some a from h))⟩
  | n + 1 => by
    obtain ⟨g1, g2⟩ := goodS n
    refine ⟨fun m st a h X W c => ?_, fun m ss a h X W c => ?_⟩
    · have ih : ∀ e a, compE n m e = some a → PE X e (wE X.K W a) := fun e a h => (goodE' n m e a h X W c).pe
      unfold compS at h
      split at h
      · obtain rfl := Option.some.inj h
        exact ps_doc
      · split at h
        · cases h
        · rename_i hc
          obtain ⟨a1, e1, rfl⟩ := map_some h
          exact ps_expr (ih _ _ e1) (swaps_no ((Bool.not_eq_true _).mp hc))
      · obtain ⟨a1, e1, rfl⟩ := map_some h
        exact ps_ret (ih _ _ e1)
      · obtain rfl := Option.some.inj h
        exact ps_retN
      · obtain rfl := Option.some.inj h
        exact ps_pass
      · obtain rfl := Option.some.inj h
        exact ps_break
      · obtain rfl := Option.some.inj h
        exact ps_continue
      · split at h
        · rename_i hs
          rw [Bool.and_eq_true] at hs
          split at h
          · rename_i e1 e2
            obtain rfl := Option.some.inj h
            exact ps_lcM c hs.1 e1 e2
          · cases h
        · cases h
      · split at h
        · cases h
        · rename_i hc
          split at h
          · rename_i e1 e2
            obtain rfl := Option.some.inj h
            exact ps_asg (ih _ _ e2) (goodG' n _ _ _ e1 X W c) (sole_no ((Bool.not_eq_true _).mp hc)) rfl rfl
          · cases h
      · split at h
        · rename_i hw
          rw [← c.sc] at hw
          split at h
          · rename_i e1 e2
            obtain rfl := Option.some.inj h
            exact ps_asg (ih _ _ e2) (goodG' n _ _ _ e1 X W c) (sole_no rfl) (sw_pure hw) rfl
          · cases h
        · rename_i hw
          rw [← c.sc] at hw
          have nd : X.N.Nodup := by rw [c.N]; exact c.nd
          split at h
          · rename_i e1
            split at h
            · rename_i hk
              simp only [Bool.and_eq_true, decide_eq_true_eq] at hk
              obtain ⟨⟨k1, k2⟩, rfl⟩ := hk
              split at h
              · rename_i i1 i2
                split at h
                · rename_i hne
                  obtain rfl := Option.some.inj h
                  exact ps_par c.calm nd (c.slot i1) (c.slot i2) hne (c.loc k1) (c.loc k2) (args_ok ih e1).1.pa (sw_pure hw) (sole_no rfl)
                · cases h
              · cases h
            · cases h
          · rename_i e1
            split at h
            · rename_i hk
              simp only [Bool.and_eq_true, decide_eq_true_eq] at hk
              obtain ⟨⟨⟨k1, k2⟩, k3⟩, rfl⟩ := hk
              split at h
              · rename_i i1 i2 i3
                split at h
                · rename_i hne
                  obtain rfl := Option.some.inj h
                  exact ps_par3 c.calm nd (c.slot i1) (c.slot i2) (c.slot i3) hne.1 hne.2.1 hne.2.2 (c.loc k1) (c.loc k2) (c.loc k3) (args_ok ih e1).1.pa (sw_pure hw) (sole_no rfl)
                · cases h
              · cases h
            · cases h
          · cases h
        · cases h
      · split at h
        · cases h
        · rename_i hc
          have hc := (Bool.not_eq_true _).mp hc
          rw [Bool.or_eq_false_iff] at hc
          split at h
          · rename_i e1 e2
            obtain rfl := Option.some.inj h
            exact ps_asg (ih _ _ e2) (goodG' n _ _ _ e1 X W c) (sole_no hc.1) (sw_none hc.2) rfl
          · cases h
      · split at h
        · rename_i e1 e2 e3
          obtain rfl := Option.some.inj h
          exact ps_if (goodE' n _ _ _ e1 X W c).pt (g2 _ _ _ e2 X W c) (g2 _ _ _ e3 X W c)
        · cases h
      · rename_i tg it b p
        split at h
        · rename_i hs
          split at h
          · rename_i e1 e2 e3
            obtain rfl := Option.some.inj h
            exact ps_for c.po c.calm (goodI' n _ _ _ _ e2 X W c) (goodG' n _ _ _ e1 X W c) (g2 _ _ _ e3 X W c) (folded_no (by cases it <;> first | rfl | cases hs))
          · cases h
        · cases h
      · split at h
        · rename_i e1 e2
          obtain rfl := Option.some.inj h
          exact ps_while c.po (goodE' n _ _ _ e1 X W c).pt (g2 _ _ _ e2 X W c)
        · cases h
      · cases h
    · unfold compSs at h
      split at h
      · obtain rfl := Option.some.inj h
        exact pss_nil
      · split at h
        · rename_i e1 e2
          obtain rfl := Option.some.inj h
          exact pss_cons (g1 _ _ _ e1 X W c) (g2 _ _ _ e2 X W c)
        · rename_i e2
          obtain rfl := Option.some.inj h
          exact pss_cons ps_never (g2 _ _ _ e2 X W c)
        · cases h
end
end CW

namespace CW
open PySem PySem.Spec PyProof.Rows L2
/-! ## 10. A def keeps its promise -/
/-- of a name of the module, wherever one stands -/
def GvF (P : Program) (w : World) (K : PySem.W.Frag) (mg : Str → Option Value) (base : Heap) (k : Nat) (x : Str) : Gv → Prop
  | .fn ps sh sp => ∃ f fd, mg x = some (.ref f) ∧ PySem.W.keepIn K (.ref f) = true ∧ FnG P w K mg base k f fd ps sp ∧ ∀ t ∈ sh, KB K fd ps t.1 t.2.1 t.2.2
  | .con v => ∃ u, mg x = some u ∧ RelV v u
  | .bi b => mg x = none ∧ bootBuiltins x = some b.val
  | .ty t ob => mg x = none ∧ bootBuiltins x = some (.type t.nm) ∧ ∀ b, ob = some b → b.val = .type t.nm
  | .isi => mg x = none ∧ bootBuiltins x = some (.builtin "isinstance")
  | .rng => x = "range" ∧ mg "range" = none
  | .enum => x = "enumerate" ∧ mg "enumerate" = none
section
variable {P : Program} {w : World} {K : PySem.W.Frag} {mg : Str → Option Value} {base : Heap}
theorem GvF.up {j k : Nat} (h : j ≤ k) {x : Str} : ∀ {g : Gv}, GvF P w K mg base j x g → GvF P w K mg base k x g
  | .fn _ _ _, ⟨f, fd, a, b, F, d⟩ => ⟨f, fd, a, b, F.up h, d⟩
  | .con _, z => z
  | .bi _, z => z
  | .ty _ _, z => z
  | .isi, z => z
  | .rng, z => z
  | .enum, z => z
theorem GvF.at {k : Nat} {X : Cx} (h1 : X.prog = P) (h2 : X.w = w) (h3 : X.K = K) (h4 : X.mg = mg) (h5 : X.base = base) (hr : Room k X.A) {x : Str} : ∀ {g : Gv}, GvF P w K mg base k x g → GvOk X x g := by
  subst h1 h2 h3 h4 h5
  intro g z
  cases g with
  | fn ps sh sp => obtain ⟨f, fd, a, b, F, d⟩ := z; exact ⟨f, fd, k, a, b, F, hr, d⟩
  | _ => exact z
/-- THE RULE for a def of the text -/
theorem fn_G {k n : Nat} {f : Addr} {name qual : Str} {params : Arguments} {body : List Stmt} {scope : Scope} {kV doc pm cdv ct oc : Value} {an od : Option Addr} {osl : Array (Option Value)} {N ps : List Str} {sp : Sp} {tb : List (Str × Gv)} {a : S}
    (lk : K.lookup f = some ⟨oc, od, .func (PySem.W.fnOf name qual params body scope .none kV doc pm an cdv ct), osl⟩) (hcd : PySem.W.codeIn K cdv qual = true) (sc : FnScope N ps scope) (hg : ∀ p ∈ tb, GvF P w K mg base k p.1 p.2)
    (hc : compSs n ⟨N, scope, fun _ => true, tb⟩ body = some a)
    (hs : ∀ vs H Q R, sp vs H Q R → vs.length = ps.length ∧ wS K (fun cls d _ H' => R cls d H') a { nx := fun _ H' => Q .non H', rt := Q } (start N vs) H) :
    FnG P w K mg base (k + 1) f (PySem.W.fnOf name qual params body scope .none kV doc pm an cdv ct) ps sp := by
  refine ⟨fun vs H Q R z => (hs vs H Q R z).1, fun A outer s H args us vs Q R hr hgd e0 hb rv z => ?_⟩
  obtain ⟨hl, rd⟩ := hs vs H Q R z
  have kin : K.In s.heap := e0.mod.kin.keeps fun b o e => (e0.bs b o e).1
  have lim : s.heap.NoLimit := e0.mod.nolimit.keeps fun b o e => (e0.bs b o e).1
  have kinds : ∀ y ∈ ps.zip us, scope.names.lookup y.1 = some .local ∨ (scope.names.lookup y.1 = some .cell ∧ ((cellsFrom (s.heap.objs.size + 1) scope.names []).lookup y.1).isSome = true) := fun ⟨x, v⟩ hy => by
    rcases sc.par x (List.of_mem_zip hy).1 with q | q
    · exact .inl q
    · exact .inr ⟨q, PySem.W.cellsFrom_some _ _ _ (.inl q)⟩
  refine codeAny_call_function hr.depth (kin _ _ lk) rfl sc.co sc.gen rfl (PySem.W.codeRec_of kin hcd) (hb _ _ _ _ ?_)
  refine wpAny_newFunctionEnv_cells sc.kind kinds fun env he s1 x => ?_
  subst he
  refine ⟨lim.keeps x.toInCall.keep, codeAny_func ?_⟩
  have I : Inv (cxOf (L2.CX P w) P w K mg base N qual scope f cdv A outer s H R) [] (start N vs) H s1 := inv_start sc hr.hd e0 hl rv x
  have hr' : Room k (A.deeper (envOfC qual scope s.heap.objs.size f cdv)) := hr.deeper _
  have c : Cnd (cxOf (L2.CX P w) P w K mg base N qual scope f cdv A outer s H R) ⟨N, scope, fun _ => true, tb⟩ (fun cls d _ H' => R cls d H') :=
    { N := rfl, nd := sc.nd, sc := rfl, fn := rfl, calm := rfl, gd := hgd, un := by { have := hr'.un; show (A.deeper (envOfC qual scope s.heap.objs.size f cdv)).units + 65 < cLine; omega }, tk := takes_of rfl rfl rfl rfl, po := passes_of rfl,
      gl := fun p hp => (hg p hp).at rfl rfl rfl rfl rfl hr' }
  have ht := (goodS n).2 _ _ _ hc _ _ c
  refine wpAny_mono (ht.run [] s1 (start N vs) H _ I rd) (fun fl s' q => ?_) fun x s' q => q
  cases fl with
  | ret u => obtain ⟨v, σ', H', J, rx, q⟩ := q; exact ⟨v, H', J.os, J.bare, J.base, J.hok, rx, q⟩
  | next => obtain ⟨σ', H', J, q⟩ := q; exact ⟨.non, H', J.os, J.bare, J.base, J.hok, rfl, q⟩
  | brk => obtain ⟨_, _, _, q⟩ := q; exact False.elim q
  | cont => obtain ⟨_, _, _, q⟩ := q; exact False.elim q
end
end CW

namespace CW
open PySem PySem.Spec PyProof.Rows L2
/-! ## 11. The law's end -/
/-- the script alone is tracked, at a -/
def scriptH (a : Addr) (ob : Obj) (ns : List Int) : Hp := fun b => if b = a then some (.frz ob (.lst (ns.map V.int))) else none
theorem law_G {P : Program} {w : World} {K : PySem.W.Frag} {mg mb : Str → Option Value} {k : Nat} {fa a : Addr} {fd : FuncData} {x : Str} {sp : Sp} {s1 : Shared} {vs : List Value} {ns : List Int}
    (kx : K.In s1.heap) (g1 : s1.heap.Ns mainGlobals mg) (g2 : s1.heap.Ns builtinsNs mb) (g3 : ∀ x : Str, x ≠ "__name__" → mb x = bootBuiltins x) (lim : s1.heap.NoLimit) (hg : s1.gens = #[])
    (ha : s1.heap.get? a = some { cls := .type "list", data := .seq vs.toArray }) (hi : IntsAre vs ns) (hl : ns.length ≤ sizeLine) (hr : Room k callerA)
    (F : ∀ base : Heap, K.In base → base.Ns mainGlobals mg → FnG P w K mg base k fa fd [x] sp) (hb : ∀ (s : Shared) (u : Value), BindsTo s fd ⟨[u], []⟩ [(x, u)])
    (hsp : ∀ H : Hp, Only H → SqL K H a (ns.map V.int) → sp [.ref a] H (fun v _ => v = .bl true) fun _ _ _ => False) :
    codeAny (model P w) callerA (.call (.ref fa) ⟨[.ref a], []⟩) (fun r s' => r = .ok (.ret (.bool true)) ∧ OldK s1.heap s'.heap ∧ s'.os = s1.os ∧ AllBare s'.gens) s1 := by
  have rv := vals_ints hi
  have step : ∀ H : Hp, Only H → SqL K H a (ns.map V.int) → HOk P w H s1.heap → (∀ b, H b ≠ none → b = a) → (H a ≠ none → K.lookup a = none) →
      codeAny (model P w) callerA (.call (.ref fa) ⟨[.ref a], []⟩) (fun r s' => r = .ok (.ret (.bool true)) ∧ OldK s1.heap s'.heap ∧ s'.os = s1.os ∧ AllBare s'.gens) s1 := by
    intro H only sq hok onlyA noK
    have dn : ∀ {b : Addr} {o : Obj} {es : Array DictEntry} {ep : Nat}, s1.heap.get? b = some o → o.data = .dict es ep → H b = none := by
      intro b o es ep q d
      cases z : H b with
      | none => rfl
      | some t =>
        obtain rfl : b = a := onlyA b (by rw [z]; exact fun t => nomatch t)
        rw [ha] at q
        obtain rfl := Option.some.inj q
        exact nomatch d
    have nsk : ∀ {b : Addr} {f : Str → Option Value}, s1.heap.Ns b f → (hidT s1.heap H).Ns b f := fun ⟨o, es, ep, q, d, r⟩ => ⟨o, es, ep, hidT_get q (dn q d), d, r⟩
    have kb : K.In (hidT s1.heap H) := fun b o q => hidT_get (kx b o q) (by
      cases z : H b with
      | none => rfl
      | some t =>
        obtain rfl : b = a := onlyA b (by rw [z]; exact fun t => nomatch t)
        rw [noK (by rw [z]; exact fun t => nomatch t)] at q
        exact nomatch q)
    have md : Mod K mg (hidT s1.heap H) := { kin := kb, glob := nsk g1, blt := ⟨mb, nsk g2, g3⟩, nolimit := (let ⟨c, l1, l2⟩ := lim; ⟨c, nsk l1, l2⟩) }
    have e0 : Env0 P w K mg (hidT s1.heap H) callerA [] s1 H :=
      { frames := rfl, mod := md, bs := fun b o q => of_hidT q, bsz := Nat.le_of_eq (hidT_size _ _), funs := trivial, frf := fun b z => (nomatch (show b ∈ ([] : List Addr) from z)), hok := hok, bare := .of_eq hg }
    have run := (F _ kb (nsk g1)).go callerA [] s1 H ⟨[.ref a], []⟩ [.ref a] [.ref a] _ _ hr rfl e0 (hb s1 (.ref a)) (.cons rfl .nil) (hsp H only sq)
    refine codeAny_mono run fun r s' q => ?_
    cases r with
    | error e =>
      obtain ⟨_, _, _, _, _, _, _, _, _, _, _, _, no⟩ := q
      exact no.elim
    | ok fl =>
      cases fl with
      | ret u =>
        obtain ⟨v, H', eos, bare, un, hok', rx, rfl⟩ := q
        obtain rfl : u = Value.bool true := rx
        refine ⟨rfl, OldK.of_keep fun b o e => ?_, eos, bare⟩
        cases z : H b with
        | none => exact un.keep b o e z (fun t => (nomatch (show b ∈ ([] : List Addr) from t))) (fun t => nomatch t)
        | some t =>
          rcases only b with z2 | ⟨ob, xs, z2⟩
          · rw [z] at z2; exact nomatch z2
          · have o1 := (hok b _ z2).1
            have o2 := (hok' b _ (un.frzs b ob _ z2)).1
            rw [e] at o1
            obtain rfl := Option.some.inj o1
            exact o2
      | next => exact False.elim q
      | brk => exact False.elim q
      | cont => exact False.elim q
  cases hk : K.lookup a with
  | some o =>
    have e := kx a o hk
    rw [ha] at e
    obtain rfl := Option.some.inj e
    refine step (fun _ => none) (fun _ => .inl rfl) (.inr ⟨_, vs.toArray, _, hk, rfl, rfl, rfl, ?_, by simpa using rv⟩) (fun b u z => nomatch z) (fun b z => absurd rfl z) (fun z => absurd rfl z)
    rw [List.size_toArray, hi.length]
    exact hl
  | none =>
    have at_a : ∀ {b : Addr}, b = a → scriptH a { cls := .type "list", data := .seq vs.toArray } ns b = some (.frz { cls := .type "list", data := .seq vs.toArray } (.lst (ns.map V.int))) := fun e => if_pos e
    have off_a : ∀ {b : Addr}, b ≠ a → scriptH a { cls := .type "list", data := .seq vs.toArray } ns b = none := fun e => if_neg e
    refine step (scriptH a { cls := .type "list", data := .seq vs.toArray } ns) (fun b => ?_) (.inl (.inr ⟨_, at_a rfl⟩)) (fun b u z => ?_) (fun b z => Classical.byContradiction fun h => z (off_a h)) fun _ => hk
    · by_cases h : b = a
      · exact .inr ⟨_, _, at_a h⟩
      · exact .inl (off_a h)
    · by_cases h : b = a
      · rw [at_a h] at z
        obtain rfl := Option.some.inj z
        subst h
        exact ⟨ha, by rw [List.length_map]; exact hl, vs, _, rv, ha⟩
      · rw [off_a h] at z
        exact nomatch z
/-- the goal behind the head, from the law's promise -/
theorem walk_G {l : PySem.W.OpenLaw} {n k : Nat} {q : Program} {loose : List Str} {XP : (Str → Option Value) → Heap → Prop} {YP : World → Heap → Prop} {d : DefRec} {K : Params → PySem.W.Frag} {sp : PySem.W.Frag → Sp} {x : Str}
    (hn : l.most = some n) (hn2 : n ≤ sizeLine) (hdf : d.params.defaults = []) (hr : Room k callerA) (hY : ∀ (w : World) (h : Heap), YP w h → (K w.params).In h)
    (F : ∀ (w : World) (mg : Str → Option Value) (fa : Addr) (h : Heap), (K w.params).In h → h.Ns mainGlobals mg → mg d.name = some (.ref fa) →
      ∃ fd : FuncData, (∀ (s : Shared) (u : Value), BindsTo s fd ⟨[u], []⟩ [(x, u)]) ∧ ∀ base : Heap, (K w.params).In base → base.Ns mainGlobals mg → FnG l.prog w (K w.params) mg base k fa fd [x] (sp (K w.params)))
    (hsp : ∀ (K : PySem.W.Frag) (H : Hp) (a : Addr) (ns : List Int), ns.length ≤ n → Only H → SqL K H a (ns.map V.int) → sp K [.ref a] H (fun v _ => v = .bl true) fun _ _ _ => False) :
    PySem.W.WalkO q loose XP YP l.row.toRowW d [] (fun f vs => PySem.call f vs) := by
  refine Att.attach_call hn hdf fun w s0 s1 mg mb fa o pm cd doc a vs ns G Y ho hd hcd hmg hobj hints hlen hgens => ?_
  obtain ⟨fd, hb, hF⟩ := F w mg fa _ (hY w _ Y) G.T.g hmg
  exact law_G (hY w _ Y) G.T.g G.T.b G.T.builtins G.T.nolimit hgens hobj hints (Nat.le_trans hlen hn2) hr hF hb fun H hO hS => hsp (K w.params) H a ns hlen hO hS
end CW

namespace CW
open PySem PySem.Spec PyProof.Rows L2
/-! ## 12. Small words for readings -/
abbrev Dn (Q : VK) : Ends := { nx := fun _ H' => Q .non H', rt := Q }
theorem drop_upd {H : Hp} {D : Addr} {o : HO} (h : H D = none) : dropA (upd H D o) D = H := by
  funext b
  unfold dropA upd
  by_cases e : b = D
  · rw [if_pos e, e, h]
  · rw [if_neg e, if_neg e]
section
variable {K : PySem.W.Frag} {H : Hp} {Q : VK} {p : Addr} {xs : List V} {v : V} {i : Int}
theorem sub_lst (h : H p = some (.lst xs)) (e : atI xs i = some v) (q : Q v H) : rSub K (.ref p) (.int i) H Q := .inl ⟨p, xs, i, v, rfl, rfl, SqL.of h, e, q⟩
theorem sub_sql (h : SqL K H p xs) (e : atI xs i = some v) (q : Q v H) : rSub K (.ref p) (.int i) H Q := .inl ⟨p, xs, i, v, rfl, rfl, h, e, q⟩
theorem sub_tup (h : SqT K H p xs) (e : atI xs i = some v) (q : Q v H) : rSub K (.ref p) (.int i) H Q := .inr (.inl ⟨p, xs, i, v, rfl, rfl, h, e, q⟩)
theorem sub_str {z : Str} {c : Nat} (hz : z.length ≤ 1000) (e : atI z.cps.toList i = some c) (q : Q (.str ⟨#[c]⟩) H) : rSub K (.str z) (.int i) H Q := ⟨Nat.le_trans hz (by decide), c, e, q⟩
theorem set_lst {j : Int} {k : Nat} {R : Hp → Prop} (h : H p = some (.lst xs)) (e : ixN xs.length j = some k) (q : R (upd H p (.lst (xs.set k v)))) : rSet (.ref p) (.int j) v H R := .inl ⟨p, xs, j, k, rfl, rfl, h, e, q⟩
theorem len_str {z : Str} (hz : z.length ≤ 1000) (q : Q (.int z.length) H) : rBi K .len [.str z] H Q := ⟨Nat.le_trans hz (by decide), q⟩
theorem len_sql (h : SqL K H p xs) (q : Q (.int xs.length) H) : rBi K .len [.ref p] H Q := .inl ⟨xs, h, q⟩
theorem len_sqt (h : SqT K H p xs) (q : Q (.int xs.length) H) : rBi K .len [.ref p] H Q := .inr (.inl ⟨xs, h, q⟩)
theorem atI_of {α : Type} {xs : List α} {i : Int} (h0 : 0 ≤ i) (h1 : i < xs.length) : ∃ v, atI xs i = some v ∧ v ∈ xs := by
  obtain ⟨k, rfl⟩ := Int.eq_ofNat_of_zero_le h0
  have hk : k < xs.length := by omega
  exact ⟨xs[k], atI_nat (List.getElem?_eq_getElem hk), List.getElem_mem hk⟩
end
section
variable {K : PySem.W.Frag} {W : WX} {σ : L2.St} {H : Hp} {Q : VK} {D : Ends}
theorem st_setc {i : Nat} {e : E} {r : S} (h : wE K W e σ H fun x H1 => wS K W r D (σ.set i (some x)) H1) : wS K W (.cons (.set (.v i) e) r) D σ H := h
theorem st_ret {e : E} {r : S} (h : wE K W e σ H D.rt) : wS K W (.cons (.ret e) r) D σ H := h
theorem st_ite {c : E} {a b r : S} (h : wT K W c σ H fun k H1 => if k = true then wS K W a { D with nx := wS K W r D } σ H1 else wS K W b { D with nx := wS K W r D } σ H1) : wS K W (.cons (.ite c a b) r) D σ H := h
theorem e_repr {i : Nat} {x : V} (hi : σ[i]? = some (some x)) (h : rRepr K x H Q) : wE K W (.bi .repr (.cons (.v i) .nil)) σ H Q := by
  show (match σ[i]? with | some (some x) => rRepr K x H Q | _ => False)
  rw [hi]
  exact h
theorem t_cmp {op : CmpOp} {a b : E} {Q : Bool → Hp → Prop} (h : wE K W a σ H fun x H1 => wE K W b σ H1 fun y H2 => rCmp K op x y H2 fun z H3 => match z with | .bl k => Q k H3 | _ => False) : wT K W (.cmp op a b) σ H Q := h
end
/-- a comprehension over a text, each turn without trace -/
theorem lc_str {K : PySem.W.Frag} {W : WX} {e : E} {i j : Nat} {σ : L2.St} {H : Hp} {Q : VK} {z : Str} (g : Nat → V) (hz : z.length ≤ 1000) (hj : σ[j]? = some (some (.str z)))
    (hs : ∀ c ∈ z.cps.toList, ∀ (H' : Hp) (Q' : VK), Q' (g c) H' → wE K W0 e (σ.set i (some (.str ⟨#[c]⟩))) H' Q') (q : ∀ D, H D = none → Q (.ref D) (upd H D (.lst (z.cps.toList.map g)))) : wE K W (.lc e (.v i) (.v j) .nil [i]) σ H Q := by
  show (match σ[j]? with | some (some x) => iVal K x H _ | _ => False)
  rw [hj]
  show ∀ D, H D = none → _
  intro D hD
  have hsz : (sizeLine : Nat) = 16777216 := sizeLine_eq
  have hl : z.cps.size = z.cps.toList.length := by simp
  refine ⟨fun k m H' => m = z.cps.size - k ∧ k ≤ z.cps.size ∧ H' = upd H D (.lst ((z.cps.toList.take k).map g)), ⟨_, rfl, Nat.zero_le _, rfl⟩, ?_⟩
  rintro k m H' ⟨rfl, hk, rfl⟩
  by_cases hlt : k < z.cps.size
  · refine .inr ⟨hlt, fun H' => H' = upd H D (.lst ((z.cps.toList.take (k + 1)).map g)), fun H2 e2 => ⟨z.cps.size - (k + 1), by omega, rfl, hlt, e2⟩, ?_⟩
    rintro x H2 ⟨rfl, c, hc, rfl⟩
    have hc' : z.cps.toList[k]? = some c := by simpa using hc
    have hw : (wipe σ [i]).set i (some (.str ⟨#[c]⟩)) = σ.set i (some (.str ⟨#[c]⟩)) := by
      show (σ.set i none).set i _ = _
      rw [List.set_set]
    refine ⟨?_, ?_⟩
    · rw [hw]
      show (σ.set i _).set i none = σ.set i none
      rw [List.set_set]
    show wE K W0 e ((wipe σ [i]).set i (some (.str ⟨#[c]⟩))) _ _
    rw [hw]
    refine hs c (List.mem_of_getElem? hc') _ _ ⟨_, upd_same, ?_, ?_⟩
    · rw [List.length_map, List.length_take]
      have : z.length = z.cps.size := rfl
      omega
    · have et : z.cps.toList.take (k + 1) = z.cps.toList.take k ++ [c] := by
        rw [List.take_succ, hc']; rfl
      rw [upd_upd, et, List.map_append]; rfl
  · have ek : k = z.cps.size := by omega
    subst ek
    refine .inl ⟨Nat.le_refl _, ?_⟩
    rw [hl, List.take_length]
    exact q D hD
/-- all([.. for c in text]) -/
theorem all_str {K : PySem.W.Frag} {W : WX} {e : E} {i j : Nat} {σ : L2.St} {H : Hp} {Q : VK} {z : Str} (g : Nat → Bool) (hz : z.length ≤ 1000) (hj : σ[j]? = some (some (.str z)))
    (hs : ∀ c ∈ z.cps.toList, ∀ (H' : Hp) (Q' : VK), Q' (.bl (g c)) H' → wE K W0 e (σ.set i (some (.str ⟨#[c]⟩))) H' Q') (q : Q (.bl (z.cps.toList.all g)) H) : wE K W (.bid .all (.lc e (.v i) (.v j) .nil [i])) σ H Q := by
  have y := lc_str (W := W) (H := H) (Q := fun x H1 => ∃ D acc, x = .ref D ∧ H1 D = some (.lst acc) ∧ rBi K .all [.ref D] H1 fun r H2 => H2 D = some (.lst acc) ∧ Q r (dropA H2 D)) (fun c => .bl (g c)) hz hj hs ?_
  · exact y
  intro D hD
  refine ⟨D, _, rfl, upd_same, z.cps.toList.map g, SqL.of (by rw [upd_same, List.map_map]; rfl), upd_same, ?_⟩
  rw [drop_upd hD, List.all_map]
  exact q
end CW

namespace CW
open PySem PySem.Spec PyProof.Rows L2
/-! ## 13. The draws of the laws -/
/-- a pot: two numbers -/
def Pot (H : Hp) (p : Addr) : Prop := ∃ x y : Int, H p = some (.lst [.int x, .int y]) ∧ 0 ≤ x ∧ 0 ≤ y ∧ y < 4294967296
/-- the pot at p may have changed, things may have come, all else stands -/
structure Chg (p : Addr) (H H' : Hp) : Prop where
  pot : Pot H' p
  old : ∀ b o, b ≠ p → H b = some o → H' b = some o
theorem Chg.refl {p : Addr} {H : Hp} (h : Pot H p) : Chg p H H := ⟨h, fun _ _ _ e => e⟩
theorem Chg.trans {p : Addr} {H H1 H2 : Hp} (a : Chg p H H1) (b : Chg p H1 H2) : Chg p H H2 := ⟨b.pot, fun c o n e => b.old c o n (a.old c o n e)⟩
theorem Chg.new {p : Addr} {H H' : Hp} {q : Addr} {o : HO} (a : Chg p H H') (hq : H' q = none) : Chg p H (upd H' q o) := by
  obtain ⟨⟨x, y, e, r⟩, k⟩ := a
  refine ⟨⟨x, y, by rw [upd_ne (ne_of_none e hq)]; exact e, r⟩, fun b u n z => ?_⟩
  rw [upd_ne (ne_of_none (k b u n z) hq)]
  exact k b u n z
theorem Chg.free {p : Addr} {H H' : Hp} (a : Chg p H H') (hp : Pot H p) {q : Addr} (hq : H' q = none) : H q = none := by
  cases e : H q with
  | none => rfl
  | some o =>
    by_cases n : q = p
    · obtain ⟨x, y, z, _⟩ := a.pot
      rw [← n, hq] at z
      exact nomatch z
    · rw [a.old q o n e] at hq
      exact nomatch hq
theorem Chg.ne {p : Addr} {H : Hp} (hp : Pot H p) {q : Addr} (hq : H q = none) : q ≠ p := fun e => by
  obtain ⟨x, y, z, _⟩ := hp
  rw [← e, hq] at z
  exact nomatch z
theorem Chg.drop {p : Addr} {H H' : Hp} {D : Addr} (a : Chg p H H') (hp : Pot H p) (hD : H D = none) : Chg p H (dropA H' D) := by
  have n := Chg.ne hp hD
  have yes : ∀ {b : Addr} {o : HO}, b ≠ D → H' b = some o → dropA H' D b = some o := fun h e => by unfold dropA; rw [if_neg h]; exact e
  obtain ⟨x, y, e, r⟩ := a.pot
  refine ⟨⟨x, y, yes n.symm e, r⟩, fun b o hb z => yes (fun q => by rw [q, hD] at z; exact nomatch z) (a.old b o hb z)⟩
theorem Chg.put {p : Addr} {H H' : Hp} {x y : Int} (a : Chg p H H') (hx : 0 ≤ x) (hy : 0 ≤ y) (hy2 : y < 4294967296) : Chg p H (upd H' p (.lst [.int x, .int y])) :=
  ⟨⟨x, y, upd_same, hx, hy, hy2⟩, fun b o n e => by rw [upd_ne n]; exact a.old b o n e⟩
/-- _law_draw -/
def drawB (a b m1 m2 dv : Int) : S := .cons (.ite (.cmp .Gt (.sub (.v 0) (.c (.int 0))) (.c (.int 0))) (.cons (.set (.tup (.cons (.sub (.v 0) (.c (.int 0))) (.cons (.v 2) (.nil)))) (.bi .divmod (.cons (.sub (.v 0) (.c (.int 0))) (.cons (.v 1) (.nil))))) (.cons (.ret (.v 2)) (.nil))) (.nil)) (.cons (.set (.sub (.v 0) (.c (.int 1))) (.bin .Mod (.bi .int (.cons (.bin .Add (.bin .Mult (.sub (.v 0) (.c (.int 1))) (.c (.int a))) (.c (.int b))) (.nil))) (.c (.int m1)))) (.cons (.ret (.bin .Mod (.bi .int (.cons (.bin .FloorDiv (.bin .Mod (.bi .int (.cons (.bin .Mult (.sub (.v 0) (.c (.int 1))) (.sub (.v 0) (.c (.int 1)))) (.nil))) (.c (.int m2))) (.c (.int dv))) (.nil))) (.v 1))) (.nil)))
def spDraw : Sp := fun vs H Q _ => ∃ (p : Addr) (n : Int), vs = [.ref p, .int n] ∧ Pot H p ∧ 0 < n ∧ n < 1000000 ∧ ∀ (d : Int) (H' : Hp), 0 ≤ d → d < n → Chg p H H' → Q (.int d) H'
theorem rd_draw {K : PySem.W.Frag} {W : WX} {a b m1 m2 dv : Int} (ha : 0 ≤ a ∧ a < 4294967296) (hb : 0 ≤ b) (h1 : 0 < m1 ∧ m1 < 4294967296) (h2 : 0 < m2) (hd : 0 < dv ∧ dv < 1073741824) (vs : List V) (H : Hp) (Q : VK) (R : XK) (h : spDraw vs H Q R) :
    vs.length = 2 ∧ wS K W (drawB a b m1 m2 dv) (Dn Q) (start ["a", "b", "c"] vs) H := by
  obtain ⟨p, n, rfl, ⟨x, y, hp, hx, hy, hy2⟩, hn, hn2, q⟩ := h
  refine ⟨rfl, ?_⟩
  have c0 : Chg p H H := .refl ⟨x, y, hp, hx, hy, hy2⟩
  refine sub_lst hp rfl ?_
  show if decide (0 < x) = true then _ else _
  split
  · -- the digits
    refine sub_lst hp rfl ⟨⟨hn, by omega⟩, fun t ht => ?_⟩
    have ntp : p ≠ t := ne_of_none hp ht
    refine ⟨t, _, rfl, .inl (.inl upd_same), rfl, _, _, rfl, ?_⟩
    refine set_lst (xs := [.int x, .int y]) (k := 0) (by rw [upd_ne ntp]; exact hp) rfl ?_
    refine ⟨_, _, rfl, rfl, ?_⟩
    refine q _ _ (Int.emod_nonneg _ (by omega)) (Int.emod_lt_of_pos _ hn) ?_
    exact (c0.new ht).put (Int.ediv_nonneg hx (by omega)) hy hy2
  · -- the mixed numbers
    refine sub_lst hp rfl ⟨.inl ⟨by omega, by omega⟩, ?_⟩
    refine ⟨h1.1, ?_⟩
    have y1 : 0 ≤ (y * a + b) % m1 := Int.emod_nonneg _ (by omega)
    have y2 : (y * a + b) % m1 < m1 := Int.emod_lt_of_pos _ h1.1
    refine set_lst (xs := [.int x, .int y]) (k := 1) hp rfl ?_
    have hp2 : upd H p (.lst [.int x, .int ((y * a + b) % m1)]) p = some (.lst [.int x, .int ((y * a + b) % m1)]) := upd_same
    refine sub_lst hp2 rfl (sub_lst hp2 rfl ⟨.inl ⟨by omega, by omega⟩, ⟨h2, ⟨hd, ⟨hn, ?_⟩⟩⟩⟩)
    exact q _ _ (Int.emod_nonneg _ (by omega)) (Int.emod_lt_of_pos _ hn) (c0.put hx y1 (by omega))
/-- _law_pot -/
def potB (a b t e m1 c k1 k2 m2 f : Int) : S := .cons (.set (.v 2) (.bin .Add (.bin .Mult (.c (.int a)) (.v 1)) (.c (.int b)))) (.cons (.ite (.cmp .Lt (.v 1) (.bi .len (.cons (.v 0) (.nil)))) (.cons (.set (.v 2) (.bi .abs (.cons (.sub (.v 0) (.v 1)) (.nil)))) (.nil)) (.nil)) (.cons (.ret (.lst (.cons (.bi .max (.cons (.c (.int 0)) (.cons (.bin .Sub (.v 2) (.bin .Pow (.c (.int t)) (.c (.int e)))) (.nil)))) (.cons (.bin .Add (.bin .Mod (.bi .int (.cons (.bin .Add (.bin .Add (.bin .Mult (.bin .Mod (.bi .int (.cons (.v 2) (.nil))) (.c (.int m1))) (.c (.int c))) (.bin .Mult (.c (.int k1)) (.v 1))) (.c (.int k2))) (.nil))) (.c (.int m2))) (.c (.int f))) (.nil))))) (.nil)))
def spPot (K : PySem.W.Frag) : Sp := fun vs H Q _ => ∃ (a : Addr) (ns : List Int) (k : Int), vs = [.ref a, .int k] ∧ SqL K H a (ns.map V.int) ∧ 0 ≤ k ∧ k < 100 ∧ ∀ (p : Addr) (x y : Int), H p = none → 0 ≤ x → 0 ≤ y → y < 4294967296 → Q (.ref p) (upd H p (.lst [.int x, .int y]))
theorem rd_pot {K : PySem.W.Frag} {W : WX} {a b t e m1 c k1 k2 m2 f : Int} (ha : 0 ≤ a ∧ a < 1000000) (ht : 0 ≤ t ∧ t < 100) (he : 0 ≤ e ∧ e < 100) (h1 : 0 < m1 ∧ m1 < 4294967296) (hc : 0 ≤ c ∧ c < 4294967296) (hk : 0 ≤ k1 ∧ k1 < 1000000) (h2 : 0 < m2 ∧ m2 < 4294967290) (hf : 0 ≤ f ∧ f < 3)
    (vs : List V) (H : Hp) (Q : VK) (R : XK) (h : spPot K vs H Q R) : vs.length = 2 ∧ wS K W (potB a b t e m1 c k1 k2 m2 f) (Dn Q) (start ["a", "b", "c"] vs) H := by
  obtain ⟨s, ns, k, rfl, hs, k0, k1', q⟩ := h
  refine ⟨rfl, ⟨.inl ⟨by omega, by omega⟩, ?_⟩⟩
  have fin : ∀ z : Int, wS K W (.cons (.ret (.lst (.cons (.bi .max (.cons (.c (.int 0)) (.cons (.bin .Sub (.v 2) (.bin .Pow (.c (.int t)) (.c (.int e)))) (.nil)))) (.cons (.bin .Add (.bin .Mod (.bi .int (.cons (.bin .Add (.bin .Add (.bin .Mult (.bin .Mod (.bi .int (.cons (.v 2) (.nil))) (.c (.int m1))) (.c (.int c))) (.bin .Mult (.c (.int k1)) (.v 1))) (.c (.int k2))) (.nil))) (.c (.int m2))) (.c (.int f))) (.nil))))) (.nil)) (Dn Q) [some (.ref s), some (.int k), some (.int z)] H := by
    intro z
    have z1 : 0 ≤ z % m1 := Int.emod_nonneg _ (by omega)
    have z2 : z % m1 < m1 := Int.emod_lt_of_pos _ h1.1
    refine ⟨⟨he.1, by omega, by omega⟩, ⟨h1.1, ⟨.inl ⟨by omega, by omega⟩, ⟨.inl ⟨by omega, by omega⟩, ⟨h2.1, by show 2 ≤ sizeLine; decide, fun p hp => ?_⟩⟩⟩⟩⟩
    have w1 : 0 ≤ (z % m1 * c + k1 * k + k2) % m2 := Int.emod_nonneg _ (by omega)
    have w2 : (z % m1 * c + k1 * k + k2) % m2 < m2 := Int.emod_lt_of_pos _ h2.1
    refine q p _ _ hp ?_ (by omega) (by omega)
    split <;> omega
  refine Or.inl ⟨_, hs, ?_⟩
  show if decide (k < ((ns.map V.int).length : Int)) = true then _ else _
  split
  · rename_i hlt
    have hlt := of_decide_eq_true hlt
    obtain ⟨v, hv, hm⟩ := atI_of k0 hlt
    obtain ⟨i, _, rfl⟩ := List.mem_map.mp hm
    exact Or.inl ⟨s, _, k, _, rfl, rfl, hs, hv, fin _⟩
  · exact fin _
end CW

namespace CW
open PySem PySem.Spec PyProof.Rows L2
theorem Chg.sql {K : PySem.W.Frag} {p l : Addr} {H H' : Hp} {xs : List V} (a : Chg p H H') (n : l ≠ p) (h : SqL K H l xs) : SqL K H' l xs := by
  rcases h with (h | ⟨o, h⟩) | h
  · exact .inl (.inl (a.old _ _ n h))
  · exact .inl (.inr ⟨o, a.old _ _ n h⟩)
  · exact .inr h
theorem Chg.sqt {K : PySem.W.Frag} {p l : Addr} {H H' : Hp} {xs : List V} (a : Chg p H H') (n : l ≠ p) (h : SqT K H l xs) : SqT K H' l xs := by
  rcases h with (h | ⟨o, h⟩) | h
  · exact .inl (.inl (a.old _ _ n h))
  · exact .inl (.inr ⟨o, a.old _ _ n h⟩)
  · exact .inr h
/-- a thing of one's own, made behind H, is set anew -/
theorem Chg.set {p D : Addr} {H H' : Hp} {o : HO} (a : Chg p H H') (hp : Pot H p) (hD : H D = none) : Chg p H (upd H' D o) := by
  have n := Chg.ne hp hD
  obtain ⟨x, y, e, r⟩ := a.pot
  exact ⟨⟨x, y, by rw [upd_ne n.symm]; exact e, r⟩, fun b u hb z => by rw [upd_ne (ne_of_none z hD)]; exact a.old b u hb z⟩
/-- _law_among -/
def amongB (sp : Sp) : S := .cons (.ret (.sub (.v 1) (.call sp (.cons (.v 0) (.cons (.bi .len (.cons (.v 1) (.nil))) (.nil))) (.nil) [.p 0, .p 1]))) (.nil)
def spAmong (K : PySem.W.Frag) : Sp := fun vs H Q _ => ∃ (p : Addr) (x : V), vs = [.ref p, x] ∧ Pot H p ∧
  ((∃ l xs, x = .ref l ∧ l ≠ p ∧ SqL K H l xs ∧ 0 < xs.length ∧ xs.length < 1000000 ∧ ∀ v H', v ∈ xs → Chg p H H' → Q v H') ∨
   (∃ z : Str, x = .str z ∧ 0 < z.length ∧ z.length ≤ 1000 ∧ ∀ c H', c ∈ z.cps.toList → Chg p H H' → Q (.str ⟨#[c]⟩) H') ∨
   (∃ l xs, x = .ref l ∧ l ≠ p ∧ SqT K H l xs ∧ 0 < xs.length ∧ xs.length < 1000000 ∧ ∀ v H', v ∈ xs → Chg p H H' → Q v H'))
theorem rd_among {K : PySem.W.Frag} {W : WX} (vs : List V) (H : Hp) (Q : VK) (R : XK) (h : spAmong K vs H Q R) : vs.length = 2 ∧ wS K W (amongB spDraw) (Dn Q) (start ["a", "b"] vs) H := by
  obtain ⟨p, x, rfl, hp, h⟩ := h
  refine ⟨rfl, ?_⟩
  rcases h with ⟨l, xs, rfl, nl, hs, h0, h1, q⟩ | ⟨z, rfl, h0, h1, q⟩ | ⟨l, xs, rfl, nl, hs, h0, h1, q⟩
  · refine Or.inl ⟨_, hs, ?_⟩
    refine ⟨p, _, rfl, hp, by omega, by omega, fun d H' d0 d1 ch => ?_⟩
    obtain ⟨v, hv, hm⟩ := atI_of d0 d1
    exact Or.inl ⟨l, xs, d, v, rfl, rfl, ch.sql nl hs, hv, q v H' hm ch⟩
  · refine ⟨Nat.le_trans h1 (by decide), ?_⟩
    refine ⟨p, _, rfl, hp, by omega, by omega, fun d H' d0 d1 ch => ?_⟩
    obtain ⟨c, hv, hm⟩ := atI_of (xs := z.cps.toList) d0 (by simpa [Str.length] using d1)
    exact ⟨Nat.le_trans h1 (by decide), c, hv, q c H' hm ch⟩
  · refine Or.inr (Or.inl ⟨_, hs, ?_⟩)
    refine ⟨p, _, rfl, hp, by omega, by omega, fun d H' d0 d1 ch => ?_⟩
    obtain ⟨v, hv, hm⟩ := atI_of d0 d1
    exact Or.inr (Or.inl ⟨l, xs, d, v, rfl, rfl, ch.sqt nl hs, hv, q v H' hm ch⟩)
theorem join_signs (cs : List Nat) : Txt.join "" (cs.map fun c => (⟨#[c]⟩ : Str)) = ⟨cs.toArray⟩ := by
  have go : ∀ cs : List Nat, (Str.join "" (cs.map fun c => (⟨#[c]⟩ : Str))).cps.toList = cs := by
    intro cs
    rw [show (Str.join "" (cs.map fun c => (⟨#[c]⟩ : Str))).cps.toList = TL.tl (Str.join "" (cs.map fun c => (⟨#[c]⟩ : Str))) from rfl, TL.tl_join, List.map_map]
    have : ∀ l : List Nat, TL.joinL (TL.tl "") (l.map (TL.tl ∘ fun c => (⟨#[c]⟩ : Str))) = l := by
      intro l
      induction l with
      | nil => rfl
      | cons a r ih =>
        cases r with
        | nil => rfl
        | cons b r => exact congrArg (a :: ·) ih
    exact this cs
  rw [TL.join_eq]
  have h := go cs
  cases hx : Str.join "" (cs.map fun c => (⟨#[c]⟩ : Str)) with
  | mk a => rw [hx] at h; rw [← h]
theorem sum_ones (cs : List Nat) : ((cs.map fun c => (⟨#[c]⟩ : Str)).map (·.length)).sum = cs.length := by
  induction cs with
  | nil => rfl
  | cons a r ih => rw [List.map_cons, List.map_cons, List.sum_cons, ih, List.length_cons]; show 1 + _ = _; omega
/-- ''.join([a drawn sign for turn in range(n)]) -/
theorem join_turns {K : PySem.W.Frag} {e : E} {i n : Nat} {σ : L2.St} {p : Addr} {P : Nat → Prop} {H : Hp} {Q : VK} (hp : Pot H p) (hn : n ≤ 1000)
    (step : ∀ (t : Int) (H2 : Hp) (Q' : VK), Pot H2 p → (∀ b o, b ≠ p → H b = some o → H2 b = some o) → (∀ c H3, P c → Chg p H2 H3 → Q' (.str ⟨#[c]⟩) H3) → wE K W0 e (σ.set i (some (.int t))) H2 Q')
    (q : ∀ (cs : List Nat) (H3 : Hp), cs.length = n → (∀ c ∈ cs, P c) → Chg p H H3 → Q (.str ⟨cs.toArray⟩) H3) (D : Addr) (hD : H D = none) :
    ∃ Wn : Nat → Nat → Hp → Prop, (∃ m, Wn 0 m (upd H D (.lst []))) ∧ ∀ k m H, Wn k m H →
      ((Itr 0 n).stop k H ∧ ∃ D' acc, V.ref D = .ref D' ∧ H D' = some (.lst acc) ∧ rMt K .join (.str "") [.ref D'] H fun r H3 => H3 D' = some (.lst acc) ∧ Q r (dropA H3 D')) ∨
      ((Itr 0 n).go k H ∧ ∃ Nx : Hp → Prop, (∀ H', Nx H' → ∃ m', m' < m ∧ Wn (k + 1) m' H') ∧ ∀ x H', (Itr 0 n).yld k H x H' → wG K W0 (.v i) x (wipe σ [i]) H' fun σ2 H2 => wipe σ2 [i] = wipe σ [i] ∧ wC K W0 .nil σ2 H2 fun b H3 =>
        if b = true then wE K W0 e σ2 H3 fun y H4 => ∃ acc, H4 D = some (.lst acc) ∧ acc.length < sizeLine ∧ Nx (upd H4 D (.lst (acc ++ [y]))) else Nx H3) := by
  have nD := Chg.ne hp hD
  refine lc_range (lo := 0) (n := n) (vs := [i]) (Qd := fun H => ∃ D' acc, V.ref D = .ref D' ∧ H D' = some (.lst acc) ∧ rMt K .join (.str "") [.ref D'] H fun r H3 => H3 D' = some (.lst acc) ∧ Q r (dropA H3 D'))
    (fun k H2 => ∃ cs : List Nat, cs.length = k ∧ (∀ c ∈ cs, P c) ∧ H2 D = some (.lst ((cs.map fun c => (⟨#[c]⟩ : Str)).map V.str)) ∧ Chg p H H2) ⟨[], rfl, fun _ z => (nomatch z), upd_same, (Chg.refl hp).new hD⟩ (fun k H2 hk h => ?_) (fun H2 h => ?_)
  · obtain ⟨cs, hl, hc, hd, ch⟩ := h
    refine ⟨?_, ?_⟩
    · show ((σ.set i none).set i _).set i none = σ.set i none
      rw [List.set_set, List.set_set]
    show wE K W0 e ((wipe σ [i]).set i (some (.int (0 + (k : Int))))) H2 _
    have hw : (wipe σ [i]).set i (some (.int (0 + (k : Int)))) = σ.set i (some (.int (0 + (k : Int)))) := by
      show (σ.set i none).set i _ = _
      rw [List.set_set]
    rw [hw]
    refine step _ _ _ ch.pot ch.old fun c H3 pc ch3 => ?_
    refine ⟨_, ch3.old _ _ nD hd, ?_, cs ++ [c], ?_, ?_, ?_, ?_⟩
    · have hz : (sizeLine : Nat) = 16777216 := sizeLine_eq
      simp only [List.length_map]; omega
    · simp [hl]
    · intro d hd
      rcases List.mem_append.mp hd with z | z
      · exact hc d z
      · rw [List.mem_singleton.mp z]; exact pc
    · rw [upd_same]; simp
    · exact (ch.trans ch3).set hp hD
  · obtain ⟨cs, hl, hc, hd, ch⟩ := h
    refine ⟨D, _, rfl, hd, _, .inl (SqL.of hd), ?_, hd, ?_⟩
    · rw [sum_ones]
      show cs.length + _ * 0 ≤ _
      omega
    · rw [join_signs]
      exact q cs _ hl hc (ch.drop hp hD)
end CW

namespace CW
open PySem PySem.Spec PyProof.Rows L2
/-! ## 14. The assembly -/
def arrU (ar : List Ar) (us ws : List Value) : List Value := ar.map fun
  | .p i => us.getD i .none
  | .q i => ws.getD i .none
  | .d _ => .none
def noD : Ar → Bool
  | .d .non => true
  | .d _ => false
  | _ => true
theorem vals_getD {vs : List V} {us : List Value} (r : Vals vs us) (i : Nat) : RelV (vs.getD i .non) (us.getD i .none) := by
  cases e : vs[i]? with
  | none =>
    have e2 := Vals.none_of r e
    rw [List.getD_eq_getElem?_getD, List.getD_eq_getElem?_getD, e, e2]
    rfl
  | some v =>
    obtain ⟨u, e2, r2⟩ := r.get e
    rw [List.getD_eq_getElem?_getD, List.getD_eq_getElem?_getD, e, e2]
    exact r2
theorem vals_arr {vs zs : List V} {us ws : List Value} (r1 : Vals vs us) (r2 : Vals zs ws) : ∀ {ar : List Ar}, ar.all noD = true → Vals (arr ar vs zs) (arrU ar us ws)
  | [], _ => .nil
  | a :: ar, h => by
    rw [List.all_cons, Bool.and_eq_true] at h
    refine .cons ?_ (vals_arr r1 r2 h.2)
    cases a with
    | p i => exact vals_getD r1 i
    | q i => exact vals_getD r2 i
    | d v => cases v <;> first | rfl | (exact nomatch h.1)
theorem kb_of {K : PySem.W.Frag} {fd : FuncData} {ps : List Str} {n : Nat} {ks : List Str} {ar : List Ar} (hd : ar.all noD = true) (h : ∀ us ws : List Value, us.length = n → ws.length = ks.length → bindArgs fd ⟨us, ks.zip ws⟩ = pure (ps.zip (arrU ar us ws))) : KB K fd ps n ks ar :=
  ⟨arrU ar, fun _ us ws _ h1 h2 => .of_eq (h us ws h1 h2), fun r1 r2 _ _ => vals_arr r1 r2 hd⟩
theorem gnil {p : Str × Gv → Prop} : ∀ x ∈ ([] : List (Str × Gv)), p x := fun _ z => nomatch z
theorem gcons {p : Str × Gv → Prop} {a : Str × Gv} {l : List (Str × Gv)} (h : p a) (t : ∀ x ∈ l, p x) : ∀ x ∈ a :: l, p x := fun x z => (List.mem_cons.mp z).elim (fun e => e ▸ h) (t x)
theorem knil {p : (Nat × List Str × List Ar) → Prop} : ∀ x ∈ ([] : List (Nat × List Str × List Ar)), p x := fun _ z => nomatch z
theorem kcons {p : (Nat × List Str × List Ar) → Prop} {a : Nat × List Str × List Ar} {l : List (Nat × List Str × List Ar)} (h : p a) (t : ∀ x ∈ l, p x) : ∀ x ∈ a :: l, p x := fun x z => (List.mem_cons.mp z).elim (fun e => e ▸ h) (t x)
/-- a scalar's value, as written -/
def relB : V → Value → Bool
  | .non, .none => true
  | .bl a, .bool b => a == b
  | .int a, .int b _ => a == b
  | .str a, .str b _ => decide (a = b)
  | .ref a, .ref b => a == b
  | _, _ => false
theorem relB_ok : ∀ {v : V} {u : Value}, relB v u = true → RelV v u
  | .non, .none, _ => rfl
  | .bl a, .bool b, h => by simp only [relB, beq_iff_eq] at h; rw [h]; rfl
  | .int a, .int b t, h => by simp only [relB, beq_iff_eq] at h; rw [h]; exact ⟨t, rfl⟩
  | .str a, .str b t, h => by simp only [relB, decide_eq_true_eq] at h; rw [h]; exact ⟨t, rfl⟩
  | .ref a, .ref b, h => by simp only [relB, beq_iff_eq] at h; rw [h]; rfl
def valsB : List V → List Value → Bool
  | [], [] => true
  | v :: vs, u :: us => relB v u && valsB vs us
  | _, _ => false
theorem valsB_ok : ∀ {vs : List V} {us : List Value}, valsB vs us = true → Vals vs us
  | [], [], _ => .nil
  | v :: vs, u :: us, h => by
    simp only [valsB, Bool.and_eq_true] at h
    exact .cons (relB_ok h.1) (valsB_ok h.2)
/-- a written tuple -/
theorem sqt_of {K : PySem.W.Frag} {a : Addr} {dd : Option Addr} {its : Array Value} {n : Nat} {sl : Array (Option Value)} {xs : List V} (l : K.lookup a = some ⟨.type "tuple", dd, .seq its n, sl⟩) (hz : its.size ≤ sizeLine) (v : valsB xs its.toList = true) (H : Hp) : SqT K H a xs :=
  .inr ⟨_, its, n, l, rfl, rfl, hz, valsB_ok v⟩
end CW

namespace CW
open PySem PySem.Spec PyProof.Rows L2
/-! ## 16. Data that grow -/
def Grow (H H' : Hp) : Prop := ∀ b o, H b = some o → H' b = some o
theorem Grow.refl {H : Hp} : Grow H H := fun _ _ e => e
theorem Grow.trans {H H1 H2 : Hp} (a : Grow H H1) (b : Grow H1 H2) : Grow H H2 := fun c o e => b c o (a c o e)
theorem Grow.new {H H' : Hp} {q : Addr} {o : HO} (a : Grow H H') (hq : H' q = none) : Grow H (upd H' q o) := fun b u e => by
  rw [upd_ne (ne_of_none (a b u e) hq)]; exact a b u e
theorem Grow.drop {H : Hp} {D : Addr} : Grow (dropA H D) H := fun b o e => by
  unfold dropA at e
  split at e
  · cases e
  · exact e
theorem dropA_ne {H : Hp} {D b : Addr} (h : b ≠ D) : dropA H D b = H b := by unfold dropA; rw [if_neg h]
theorem dropA_self {H : Hp} {D : Addr} : dropA H D D = none := by unfold dropA; rw [if_pos rfl]
theorem Grow.dropped {H H' : Hp} {D : Addr} (a : Grow H H') (hD : H D = none) : Grow H (dropA H' D) := fun b o e => by
  rw [dropA_ne (ne_of_none e hD)]; exact a b o e
theorem Grow.drops {H H' : Hp} {D : Addr} (a : Grow H H') : Grow (dropA H D) (dropA H' D) := fun b o e => by
  by_cases h : b = D
  · rw [h, dropA_self] at e; cases e
  · rw [dropA_ne h] at e ⊢; exact a b o e
theorem drop_updD {H : Hp} {D : Addr} {o : HO} : dropA (upd H D o) D = dropA H D := by
  funext b
  by_cases h : b = D
  · rw [h, dropA_self, dropA_self]
  · rw [dropA_ne h, dropA_ne h, upd_ne h]
theorem drop_none {H : Hp} {D : Addr} (h : H D = none) : dropA H D = H := by
  funext b
  by_cases e : b = D
  · rw [e, dropA_self, h]
  · rw [dropA_ne e]
theorem Grow.set {H : Hp} {D : Addr} {o : HO} : Grow (dropA H D) (upd H D o) := fun b u e => by
  by_cases h : b = D
  · rw [h, dropA_self] at e; cases e
  · rw [dropA_ne h] at e; rw [upd_ne h]; exact e
theorem Chg.grow {p : Addr} {H H' : Hp} (a : Chg p H H') : Grow (dropA H p) (dropA H' p) := fun b o e => by
  by_cases h : b = p
  · rw [h, dropA_self] at e; cases e
  · rw [dropA_ne h] at e ⊢; exact a.old b o h e
theorem Chg.of_grow {p : Addr} {H H' : Hp} (hp : Pot H p) (g : Grow H H') : Chg p H H' := by
  obtain ⟨x, y, e, r⟩ := hp
  exact ⟨⟨x, y, g _ _ e, r⟩, fun b o _ z => g b o z⟩
section
variable {K : PySem.W.Frag} {H H' : Hp}
theorem Grow.sql {l : Addr} {xs : List V} (a : Grow H H') (h : SqL K H l xs) : SqL K H' l xs := by
  rcases h with (h | ⟨o, h⟩) | h
  · exact .inl (.inl (a _ _ h))
  · exact .inl (.inr ⟨o, a _ _ h⟩)
  · exact .inr h
theorem Grow.sqt {l : Addr} {xs : List V} (a : Grow H H') (h : SqT K H l xs) : SqT K H' l xs := by
  rcases h with (h | ⟨o, h⟩) | h
  · exact .inl (.inl (a _ _ h))
  · exact .inl (.inr ⟨o, a _ _ h⟩)
  · exact .inr h
mutual
theorem Grow.dp (a : Grow H H') : ∀ (d : PyData) (v : V), Dp K H v d → Dp K H' v d
  | .none, _, h => by cases h; exact .non
  | .bool b, _, h => by cases h; exact .bl b
  | .int i, _, h => by cases h; exact .int i
  | .str x, _, h => by cases h; exact .str x
  | .list ds, _, h => by
    cases h with
    | lst hs ha => exact .lst (a.sql hs) (Grow.dpAll a ds _ ha)
  | .tuple ds, _, h => by
    cases h with
    | tup hs ha => exact .tup (a.sqt hs) (Grow.dpAll a ds _ ha)
  | .dict _, _, h => by cases h
theorem Grow.dpAll (a : Grow H H') : ∀ (ds : List PyData) (vs : List V), DpAll K H vs ds → DpAll K H' vs ds
  | [], _, h => by cases h; exact .nil
  | d :: ds, _, h => by
    cases h with
    | cons h1 h2 => exact .cons (Grow.dp a d _ h1) (Grow.dpAll a ds _ h2)
end
theorem dpAll_snoc {vs : List V} {ds : List PyData} {v : V} {d : PyData} : DpAll K H vs ds → Dp K H v d → DpAll K H (vs ++ [v]) (ds ++ [d]) := by
  intro h z
  induction vs generalizing ds with
  | nil => cases h; exact .cons z .nil
  | cons u vs ih =>
    cases h with
    | cons h1 h2 => exact .cons h1 (ih h2)
theorem dpAll_app {vs ws : List V} {ds es : List PyData} : DpAll K H vs ds → DpAll K H ws es → DpAll K H (vs ++ ws) (ds ++ es) := by
  intro h z
  induction vs generalizing ds with
  | nil => cases h; exact z
  | cons u vs ih =>
    cases h with
    | cons h1 h2 => exact .cons h1 (ih h2)
theorem dpAll_len : ∀ {ds : List PyData} {vs : List V}, DpAll K H vs ds → vs.length = ds.length
  | [], _, h => by cases h; rfl
  | d :: ds, _, h => by
    cases h with
    | cons h1 h2 => rw [List.length_cons, List.length_cons, dpAll_len h2]
theorem dpAll_rev {vs : List V} {ds : List PyData} : DpAll K H vs ds → DpAll K H vs.reverse ds.reverse := by
  intro h
  induction vs generalizing ds with
  | nil => cases h; exact .nil
  | cons u vs ih =>
    cases h with
    | cons h1 h2 => rw [List.reverse_cons, List.reverse_cons]; exact dpAll_snoc (ih h2) h1
theorem dpAll_get : ∀ {ds : List PyData} {vs : List V} {i : Nat} {v : V}, DpAll K H vs ds → vs[i]? = some v → ∃ d, ds[i]? = some d ∧ Dp K H v d
  | [], _, i, v, h, e => by cases h; cases e
  | d :: ds, _, 0, v, h, e => by
    cases h with
    | cons h1 h2 => cases e; exact ⟨d, rfl, h1⟩
  | d :: ds, _, i + 1, v, h, e => by
    cases h with
    | cons h1 h2 => exact dpAll_get (i := i) h2 e
end
/-- a new list at l with these data; all else as it was -/
structure New (K : PySem.W.Frag) (H : Hp) (l : Addr) (H' : Hp) (ds : List PyData) : Prop where
  fresh : H l = none
  here : ∃ vs, H' l = some (.lst vs) ∧ DpAll K (dropA H' l) vs ds
  grow : Grow H (dropA H' l)
section
variable {K : PySem.W.Frag} {H H' H2 : Hp} {l : Addr} {ds : List PyData}
theorem New.grows (n : New K H l H' ds) : Grow H H' := n.grow.trans Grow.drop
theorem New.dp (n : New K H l H' ds) : Dp K H' (.ref l) (.list ds) := by
  obtain ⟨vs, h1, h2⟩ := n.here
  exact .lst (SqL.of h1) (Grow.drop.dpAll _ _ h2)
theorem New.more (n : New K H l H' ds) (g : Grow H' H2) : New K H l H2 ds := by
  obtain ⟨vs, h1, h2⟩ := n.here
  exact ⟨n.fresh, ⟨vs, g _ _ h1, g.drops.dpAll _ _ h2⟩, n.grow.trans g.drops⟩
end
/-- a comprehension that only makes new data -/
theorem lc_grow {K : PySem.W.Frag} {J : It} {n : Nat} {G : Hp → Prop} {Y : Nat → Hp → V → Hp → Prop} (w : Walk J n G Y) {g : TG} {tt : TT} {te : TE} {vs : List Nat} {σ : L2.St} {H : Hp} {D : Addr} {Qd : Hp → Prop} (ds : Nat → List PyData) (hD : H D = none) (hG : ∀ H2, Grow H H2 → G H2) (h0 : ds 0 = [])
    (hl : ∀ i, i < n → (ds i).length < sizeLine)
    (hs : ∀ i x H2 H2' acc (P : Hp → Prop), i < n → Grow H H2 → H2 D = some (.lst acc) → Y i H2 x H2' →
      (∀ y H5 d, H5 D = some (.lst acc) → Grow (dropA H2 D) (dropA H5 D) → ds (i + 1) = ds i ++ [d] → Dp K (dropA H5 D) y d → ∃ acc, H5 D = some (.lst acc) ∧ acc.length < sizeLine ∧ P (upd H5 D (.lst (acc ++ [y])))) →
      (∀ H4, H4 D = some (.lst acc) → Grow (dropA H2 D) (dropA H4 D) → ds (i + 1) = ds i → P H4) →
      g x (wipe σ vs) H2' fun σ2 H3 => wipe σ2 vs = wipe σ vs ∧ tt σ2 H3 fun b H4 =>
        if b = true then te σ2 H4 fun y H5 => ∃ acc, H5 D = some (.lst acc) ∧ acc.length < sizeLine ∧ P (upd H5 D (.lst (acc ++ [y]))) else P H4)
    (hd : ∀ H', New K H D H' (ds n) → Qd H') :
    ∃ W : Nat → Nat → Hp → Prop, (∃ m, W 0 m (upd H D (.lst []))) ∧ ∀ i m H, W i m H →
      (J.stop i H ∧ Qd H) ∨ (J.go i H ∧ ∃ Nx : Hp → Prop, (∀ H', Nx H' → ∃ m', m' < m ∧ W (i + 1) m' H') ∧ ∀ x H', J.yld i H x H' → g x (wipe σ vs) H' fun σ2 H2 => wipe σ2 vs = wipe σ vs ∧ tt σ2 H2 fun b H3 =>
        if b = true then te σ2 H3 fun y H4 => ∃ acc, H4 D = some (.lst acc) ∧ acc.length < sizeLine ∧ Nx (upd H4 D (.lst (acc ++ [y]))) else Nx H3) := by
  refine lc_it w (fun i H2 => New K H D H2 (ds i)) ⟨hD, ⟨[], upd_same, by rw [h0]; exact .nil⟩, by rw [drop_upd hD]; exact .refl⟩ (fun i H2 _ h => hG _ h.grows) (fun i x H2 H2' hi h y => ?_) (fun H2 h => hd _ h)
  obtain ⟨acc, ha, hda⟩ := h.here
  refine hs i x H2 H2' acc _ hi h.grows ha y (fun y H5 d e1 e2 e3 e4 => ?_) (fun H4 e1 e2 e3 => ?_)
  · refine ⟨acc, e1, by rw [dpAll_len hda]; exact hl i hi, hD, ⟨_, upd_same, ?_⟩, ?_⟩
    · rw [drop_updD, e3]; exact dpAll_snoc (e2.dpAll _ _ hda) e4
    · rw [drop_updD]; exact h.grow.trans e2
  · exact ⟨hD, ⟨acc, e1, by rw [e3]; exact e2.dpAll _ _ hda⟩, h.grow.trans e2⟩
/-! ### data within bounds -/
structure Fit (w k : Nat) (d : PyData) : Prop where
  lay : d.canLay0 = true
  dep : d.depth ≤ k
  wei : d.weight ≤ w
  ish : d.intsShort 13 = true
  sho : d.showable = true
structure FitA (w k : Nat) (ds : List PyData) : Prop where
  lay : PyData.canLayAll0 ds = true
  dep : PyData.depthAll ds ≤ k
  wei : PyData.weightAll ds ≤ w
  ish : PyData.intsShortAll 13 ds = true
  sho : PyData.showableAll ds = true
theorem Fit.repr {K : PySem.W.Frag} {H : Hp} {v : V} {d : PyData} {w k : Nat} {Q : VK} (f : Fit w k d) (hw : w ≤ 1048576) (hk : k ≤ 60) (h : Dp K H v d) (q : Q (.str d.shown) H) : rRepr K v H Q := by
  have := f.dep
  have := f.wei
  refine .inl ⟨d, h, f.sho, by omega, ?_, q⟩
  have hz : (sizeLine : Nat) = 16777216 := sizeLine_eq
  have z : d.shown.length ≤ 15728653 := shown_le13 (by
    unfold PyData.layable0
    rw [f.lay, decide_eq_true (by omega), decide_eq_true (by omega)]; rfl) f.ish
  omega
theorem Fit.shaped {d : PyData} {w k : Nat} (f : Fit w k d) (hk : k ≤ 60) : SeqAt.shaped d = true := by
  have := f.dep
  unfold SeqAt.shaped
  rw [f.lay, decide_eq_true (by omega)]; rfl
theorem FitA.nil {k : Nat} : FitA 0 k [] := ⟨rfl, Nat.zero_le _, Nat.le_refl _, rfl, rfl⟩
theorem FitA.cons {w1 w2 k : Nat} {d : PyData} {ds : List PyData} (a : Fit w1 k d) (b : FitA w2 k ds) : FitA (w1 + 1 + w2) k (d :: ds) := by
  have := a.dep; have := b.dep; have := a.wei; have := b.wei
  refine ⟨?_, ?_, ?_, ?_, ?_⟩
  · simp only [PyData.canLayAll0, a.lay, b.lay, Bool.and_self]
  · simp only [PyData.depthAll]; omega
  · simp only [PyData.weightAll]; omega
  · simp only [PyData.intsShortAll, a.ish, b.ish, Bool.and_self]
  · simp only [PyData.showableAll, a.sho, b.sho, Bool.and_self]
theorem FitA.all {w k : Nat} : ∀ {ds : List PyData}, (∀ d ∈ ds, Fit w k d) → FitA ((w + 1) * ds.length) k ds
  | [], _ => by simpa using FitA.nil
  | d :: ds, h => by
    have z := FitA.cons (h d (by simp)) (FitA.all (ds := ds) fun e he => h e (List.mem_cons_of_mem _ he))
    have e : w + 1 + (w + 1) * ds.length = (w + 1) * (d :: ds).length := by rw [List.length_cons, Nat.mul_succ]; omega
    rw [← e]; exact z
theorem Fit.list {w k : Nat} {ds : List PyData} (f : FitA w k ds) : Fit w (k + 1) (.list ds) := by
  have := f.dep; have := f.wei
  refine ⟨?_, ?_, ?_, ?_, ?_⟩
  · simp only [PyData.canLay0, f.lay]
  · simp only [PyData.depth]; omega
  · simp only [PyData.weight]; omega
  · simp only [PyData.intsShort, f.ish]
  · simp only [PyData.showable, f.sho]
theorem Fit.tup {w k : Nat} {ds : List PyData} (f : FitA w k ds) : Fit w (k + 1) (.tuple ds) := by
  have := f.dep; have := f.wei
  refine ⟨?_, ?_, ?_, ?_, ?_⟩
  · simp only [PyData.canLay0, f.lay]
  · simp only [PyData.depth]; omega
  · simp only [PyData.weight]; omega
  · simp only [PyData.intsShort, f.ish]
  · simp only [PyData.showable, f.sho]
theorem Fit.none : Fit 0 0 .none := ⟨rfl, Nat.le_refl _, Nat.le_refl _, rfl, rfl⟩
theorem Fit.bool (b : Bool) : Fit 0 0 (.bool b) := ⟨rfl, Nat.le_refl _, Nat.le_refl _, rfl, rfl⟩
theorem Fit.str {z : Str} {w : Nat} (hz : z.length ≤ w) (ha : ∀ c ∈ z.cps.toList, c < 128) : Fit w 0 (.str z) := by
  refine ⟨?_, ?_, ?_, rfl, rfl⟩
  · simp only [PyData.canLay0, PyData.strOk]
    rw [Array.all_eq_true_iff_forall_mem]
    intro c hc
    have := ha c (by simpa using hc)
    exact decide_eq_true (by omega)
  · simp only [PyData.depth]; omega
  · simp only [PyData.weight]; exact hz
theorem Fit.up {w w' k k' : Nat} {d : PyData} (f : Fit w k d) (h1 : w ≤ w') (h2 : k ≤ k') : Fit w' k' d := by
  have := f.dep; have := f.wei
  exact ⟨f.lay, by omega, by omega, f.ish, f.sho⟩
theorem FitA.up {w w' k k' : Nat} {d : List PyData} (f : FitA w k d) (h1 : w ≤ w') (h2 : k ≤ k') : FitA w' k' d := by
  have := f.dep; have := f.wei
  exact ⟨f.lay, by omega, by omega, f.ish, f.sho⟩
end CW

namespace CW
open PySem PySem.Spec PyProof.Rows L2
/-! ## 17. Words about bits -/
/-- a text by its signs -/
abbrev T (l : List Nat) : Str := ⟨l.toArray⟩
theorem T_len (l : List Nat) : (T l).length = l.length := rfl
theorem T_cps (l : List Nat) : (T l).cps.toList = l := rfl
theorem T_inj {a b : List Nat} (h : T a = T b) : a = b := congrArg (fun z : Str => z.cps.toList) h
theorem keepA {H : Hp} {b q : Addr} {o o' : HO} (e : H b = some o) (hq : H q = none) : upd H q o' b = some o := by rw [upd_ne (ne_of_none e hq)]; exact e
def Kn (K : PySem.W.Frag) (H : Hp) (x : V) : Prop := match x with
  | .ref p => ∃ t : Ty, (t = .list ∨ t = .tuple ∨ t = .dict) ∧ TyR K H p t
  | .str z => z.length ≤ 1000
  | .non => True
  | .bl _ => True
  | .int _ => True
  | _ => False
def isInt : V → Bool
  | .int _ => true
  | _ => false
def isWidth : V → Bool
  | .int i => decide (1 ≤ i) && decide (i ≤ 100)
  | _ => false
def isBit (c : Nat) : Bool := decide (c = 48) || decide (c = 49)
def isBits : V → Bool
  | .str z => z.cps.toList.all isBit
  | _ => false
def isAddress (w : Int) : V → Bool
  | .str z => isBits (.str z) && decide ((z.length : Int) = w)
  | _ => false
def isStretch (w : Int) : V → Bool
  | .str z => isBits (.str z) && decide ((z.length : Int) ≤ w)
  | _ => false
def Bt (l : List Nat) : Prop := ∀ c ∈ l, isBit c = true
theorem Bt.all {l : List Nat} (h : Bt l) : l.all isBit = true := List.all_eq_true.mpr h
theorem Bt.ascii {l : List Nat} (h : Bt l) : ∀ c ∈ l, c < 128 := fun c hc => by
  have := h c hc
  unfold isBit at this
  simp only [Bool.or_eq_true, decide_eq_true_eq] at this
  omega
theorem Bt.take {l : List Nat} (h : Bt l) (k : Nat) : Bt (l.take k) := fun c hc => h c (List.mem_of_mem_take hc)
theorem Bt.app {a b : List Nat} (h : Bt a) (g : Bt b) : Bt (a ++ b) := fun c hc => by
  rcases List.mem_append.mp hc with z | z
  · exact h c z
  · exact g c z
def spIsInt (K : PySem.W.Frag) : Sp := fun vs H Q _ => ∃ x, vs = [x] ∧ Kn K H x ∧ Q (.bl (isInt x)) H
def spIsWidth (K : PySem.W.Frag) : Sp := fun vs H Q _ => ∃ x, vs = [x] ∧ Kn K H x ∧ Q (.bl (isWidth x)) H
def spIsBits (K : PySem.W.Frag) : Sp := fun vs H Q _ => ∃ x, vs = [x] ∧ Kn K H x ∧ Q (.bl (isBits x)) H
def spWantWidth : Sp := fun vs H Q _ => ∃ w : Int, vs = [.int w] ∧ 1 ≤ w ∧ w ≤ 100 ∧ Q .non H
def spIsAddress (K : PySem.W.Frag) : Sp := fun vs H Q _ => ∃ (w : Int) (x : V), vs = [.int w, x] ∧ 1 ≤ w ∧ w ≤ 100 ∧ Kn K H x ∧ Q (.bl (isAddress w x)) H
def spIsStretch (K : PySem.W.Frag) : Sp := fun vs H Q _ => ∃ (w : Int) (x : V), vs = [.int w, x] ∧ 1 ≤ w ∧ w ≤ 100 ∧ Kn K H x ∧ Q (.bl (isStretch w x)) H
def spWantAddress : Sp := fun vs H Q _ => ∃ (w : Int) (l : List Nat), vs = [.int w, .str (T l)] ∧ 1 ≤ w ∧ w ≤ 100 ∧ Bt l ∧ (l.length : Int) = w ∧ Q .non H
def isIntB : S := .cons (.ret (.and (.isA (.v 0) [.int]) (.not (.isA (.v 0) [.bool])))) (.nil)
def isWidthB (sp : Sp) : S := .cons (.ret (.and (.call sp (.cons (.v 0) (.nil)) (.nil) [.p 0]) (.cmp2 .LtE .LtE (.c (.int 1)) (.v 0) (.c (.int 100))))) (.nil)
def isBitsB : S := .cons (.ret (.and (.isA (.v 0) [.str]) (.bid .all (.lc (.inT false (.v 1) (.cons (.c (.str "0")) (.cons (.c (.str "1")) (.nil)))) (.v 1) (.v 0) (.nil) [1])))) (.nil)
def wantWidthB (sp : Sp) : S := .cons (.ite (.not (.call sp (.cons (.v 0) (.nil)) (.nil) [.p 0])) (.cons (.bad) (.nil)) (.nil)) (.nil)
def isAddressB (s1 s2 : Sp) : S := .cons (.ex (.call s1 (.cons (.v 0) (.nil)) (.nil) [.p 0])) (.cons (.ret (.and (.call s2 (.cons (.v 1) (.nil)) (.nil) [.p 0]) (.cmp .Eq (.bi .len (.cons (.v 1) (.nil))) (.v 0)))) (.nil))
def isStretchB (s1 s2 : Sp) : S := .cons (.ex (.call s1 (.cons (.v 0) (.nil)) (.nil) [.p 0])) (.cons (.ret (.and (.call s2 (.cons (.v 1) (.nil)) (.nil) [.p 0]) (.cmp .LtE (.bi .len (.cons (.v 1) (.nil))) (.v 0)))) (.nil))
def wantAddressB (sp : Sp) : S := .cons (.ite (.not (.call sp (.cons (.v 0) (.cons (.v 1) (.nil))) (.nil) [.p 0, .p 1])) (.cons (.bad) (.nil)) (.nil)) (.nil)
section
variable {K : PySem.W.Frag} {W : WX}
theorem rd_isInt (vs : List V) (H : Hp) (Q : VK) (R : XK) (h : spIsInt K vs H Q R) : vs.length = 1 ∧ wS K W isIntB (Dn Q) (start ["a"] vs) H := by
  obtain ⟨x, rfl, hk, q⟩ := h
  refine ⟨rfl, ?_⟩
  cases x with
  | int i => exact q
  | bl b => exact q
  | str z => exact q
  | non => exact q
  | ref p =>
    obtain ⟨t, ht, hT⟩ := hk
    refine ⟨t, ht, hT, ?_⟩
    rcases ht with rfl | rfl | rfl <;> exact q
  | _ => exact hk.elim
theorem iteAnd {a b : Bool} {Q : VK} {H : Hp} (q : Q (.bl (a && b)) H) : if a = true then Q (.bl b) H else Q (.bl false) H := by
  cases a <;> exact q
theorem rd_isWidth (vs : List V) (H : Hp) (Q : VK) (R : XK) (h : spIsWidth K vs H Q R) : vs.length = 1 ∧ wS K W (isWidthB (spIsInt K)) (Dn Q) (start ["a"] vs) H := by
  obtain ⟨x, rfl, hk, q⟩ := h
  refine ⟨rfl, x, rfl, hk, ?_⟩
  cases x with
  | int i => exact iteAnd (a := decide (1 ≤ i)) (b := decide (i ≤ 100)) q
  | ref p => exact q
  | _ => first | exact q | exact hk.elim
theorem bitIn (c : Nat) : inV (.str ⟨#[c]⟩) [.str "0", .str "1"] = isBit c := by
  show ((("0" : Str) == ⟨#[c]⟩) || ((("1" : Str) == ⟨#[c]⟩) || false)) = _
  unfold isBit
  have e0 : (("0" : Str) == ⟨#[c]⟩) = decide (c = 48) := by
    rw [Bool.eq_iff_iff]
    simp only [beq_iff_eq, decide_eq_true_eq]
    constructor
    · intro e; have := congrArg (fun z : Str => z.cps.toList) e; simpa using (List.cons.inj this).1.symm
    · intro e; rw [e]; rfl
  have e1 : (("1" : Str) == ⟨#[c]⟩) = decide (c = 49) := by
    rw [Bool.eq_iff_iff]
    simp only [beq_iff_eq, decide_eq_true_eq]
    constructor
    · intro e; have := congrArg (fun z : Str => z.cps.toList) e; simpa using (List.cons.inj this).1.symm
    · intro e; rw [e]; rfl
  rw [e0, e1, Bool.or_false]
theorem bitIn2 (c : Nat) : decide (c ∈ ("01" : Str).cps.toList) = isBit c := by
  have e : ("01" : Str).cps.toList = [48, 49] := by decide +kernel
  rw [e, Bool.eq_iff_iff]
  simp [isBit]
theorem rd_isBits (vs : List V) (H : Hp) (Q : VK) (R : XK) (h : spIsBits K vs H Q R) : vs.length = 1 ∧ wS K W isBitsB (Dn Q) (start ["a", "b"] vs) H := by
  obtain ⟨x, rfl, hk, q⟩ := h
  refine ⟨rfl, ?_⟩
  cases x with
  | str z =>
    show wE K W (.bid .all (.lc (.inT false (.v 1) (.cons (.c (.str "0")) (.cons (.c (.str "1")) .nil))) (.v 1) (.v 0) .nil [1])) [some (.str z), none] H Q
    refine all_str isBit hk rfl (fun c _ H' Q' q' => ⟨rfl, rfl, by decide, ?_⟩) q
    rw [if_neg (by decide), bitIn]
    exact q'
  | ref p =>
    obtain ⟨t, ht, hT⟩ := hk
    refine ⟨t, ht, hT, ?_⟩
    rcases ht with rfl | rfl | rfl <;> exact q
  | _ => first | exact q | exact hk.elim
theorem rd_wantWidth (vs : List V) (H : Hp) (Q : VK) (R : XK) (h : spWantWidth vs H Q R) : vs.length = 1 ∧ wS K W (wantWidthB (spIsWidth K)) (Dn Q) (start ["a"] vs) H := by
  obtain ⟨w, rfl, h1, h2, q⟩ := h
  refine ⟨rfl, _, rfl, trivial, ?_⟩
  show if (!(decide (1 ≤ w) && decide (w ≤ 100))) = true then _ else _
  rw [decide_eq_true h1, decide_eq_true h2]
  exact q
theorem rd_isAddress (vs : List V) (H : Hp) (Q : VK) (R : XK) (h : spIsAddress K vs H Q R) : vs.length = 2 ∧ wS K W (isAddressB spWantWidth (spIsBits K)) (Dn Q) (start ["a", "b"] vs) H := by
  obtain ⟨w, x, rfl, h1, h2, hk, q⟩ := h
  refine ⟨rfl, w, rfl, h1, h2, x, rfl, hk, ?_⟩
  cases x with
  | str z =>
    have q : Q (.bl (isBits (.str z) && decide ((z.length : Int) = w))) H := q
    show if isBits (.str z) = true then _ else _
    split
    · rename_i e
      rw [e, Bool.true_and] at q
      refine ⟨Nat.le_trans hk (by decide), rfl, ?_⟩
      have e2 : decide (V.int (z.length : Int) = V.int w) = decide ((z.length : Int) = w) := by rw [Bool.eq_iff_iff]; simp
      rw [e2]
      exact q
    · rename_i e; rw [(Bool.not_eq_true _).mp e] at q; exact q
  | _ => first | exact q | exact hk.elim
theorem rd_isStretch (vs : List V) (H : Hp) (Q : VK) (R : XK) (h : spIsStretch K vs H Q R) : vs.length = 2 ∧ wS K W (isStretchB spWantWidth (spIsBits K)) (Dn Q) (start ["a", "b"] vs) H := by
  obtain ⟨w, x, rfl, h1, h2, hk, q⟩ := h
  refine ⟨rfl, w, rfl, h1, h2, x, rfl, hk, ?_⟩
  cases x with
  | str z =>
    have q : Q (.bl (isBits (.str z) && decide ((z.length : Int) ≤ w))) H := q
    show if isBits (.str z) = true then _ else _
    split
    · rename_i e
      rw [e, Bool.true_and] at q
      exact ⟨Nat.le_trans hk (by decide), q⟩
    · rename_i e; rw [(Bool.not_eq_true _).mp e] at q; exact q
  | _ => first | exact q | exact hk.elim
theorem isAddress_T {l : List Nat} {w : Int} (h : Bt l) (hl : (l.length : Int) = w) : isAddress w (.str (T l)) = true := by
  show (l.all isBit && decide ((l.length : Int) = w)) = true
  rw [h.all, decide_eq_true hl]; rfl
theorem isStretch_T {l : List Nat} {w : Int} (h : Bt l) (hl : (l.length : Int) ≤ w) : isStretch w (.str (T l)) = true := by
  show (l.all isBit && decide ((l.length : Int) ≤ w)) = true
  rw [h.all, decide_eq_true hl]; rfl
theorem rd_wantAddress (vs : List V) (H : Hp) (Q : VK) (R : XK) (h : spWantAddress vs H Q R) : vs.length = 2 ∧ wS K W (wantAddressB (spIsAddress K)) (Dn Q) (start ["a", "b"] vs) H := by
  obtain ⟨w, l, rfl, h1, h2, hb, hl, q⟩ := h
  refine ⟨rfl, w, _, rfl, h1, h2, (by show (T l).length ≤ 1000; rw [T_len]; omega), ?_⟩
  show if (!isAddress w (.str (T l))) = true then _ else _
  rw [isAddress_T hb hl]
  exact q
end
/-! ### slices and common beginnings -/
theorem cut_to (l : List Nat) (k : Nat) : cutS (T l) none (some (k : Int)) = T (l.take k) := by
  show (⟨((l.drop 0).take (HT.sIx l.length l.length (some (k : Int)) - 0)).toArray⟩ : Str) = _
  have e : HT.sIx l.length l.length (some (k : Int)) = min k l.length := by
    show (if (k : Int) < 0 then ((k : Int) + (l.length : Int)).toNat else min (k : Int).toNat l.length) = _
    rw [if_neg (by omega), Int.toNat_natCast]
  rw [e, Nat.sub_zero, List.drop_zero]
  congr 2
  by_cases h : k ≤ l.length
  · rw [Nat.min_eq_left h]
  · rw [Nat.min_eq_right (by omega), List.take_length, List.take_of_length_le (by omega)]
def lcp : List Nat → List Nat → List Nat
  | a :: r, b :: s => if a = b then a :: lcp r s else []
  | _, _ => []
theorem lcp_le : ∀ a b : List Nat, (lcp a b).length ≤ a.length ∧ (lcp a b).length ≤ b.length
  | [], b => by simp [lcp]
  | a :: r, [] => by simp [lcp]
  | a :: r, b :: s => by
    have := lcp_le r s
    unfold lcp
    split
    · simp only [List.length_cons]; omega
    · simp
theorem lcp_comm : ∀ a b : List Nat, (lcp a b).length = (lcp b a).length
  | [], [] => rfl
  | [], b :: s => by simp [lcp]
  | a :: r, [] => by simp [lcp]
  | a :: r, b :: s => by
    have := lcp_comm r s
    unfold lcp
    by_cases h : a = b
    · subst h; simp [this]
    · rw [if_neg h, if_neg (fun e => h e.symm)]
theorem lcp_self : ∀ a : List Nat, lcp a a = a
  | [] => rfl
  | a :: r => by unfold lcp; rw [if_pos rfl, lcp_self r]
/-- the first so many signs are alike just up to the common beginning -/
theorem take_lcp : ∀ (a b : List Nat) (k : Nat), k ≤ a.length → k ≤ b.length → (a.take k = b.take k ↔ k ≤ (lcp a b).length)
  | _, _, 0, _, _ => by simp
  | [], _, k + 1, h, _ => by simp at h
  | _ :: _, [], k + 1, _, h => by simp at h
  | a :: r, b :: s, k + 1, h1, h2 => by
    have ih := take_lcp r s k (by simpa using h1) (by simpa using h2)
    rw [List.take_succ_cons, List.take_succ_cons]
    unfold lcp
    by_cases e : a = b
    · subst e
      rw [if_pos rfl, List.length_cons]
      constructor
      · intro z; have := ih.mp (List.cons.inj z).2; omega
      · intro z; rw [ih.mpr (by omega)]
    · rw [if_neg e]
      constructor
      · intro z; exact absurd (List.cons.inj z).1 e
      · intro z; simp at z
theorem lcp_take (a b : List Nat) : lcp a b = a.take (lcp a b).length := by
  induction a generalizing b with
  | nil => simp [lcp]
  | cons x r ih =>
    cases b with
    | nil => simp [lcp]
    | cons y s =>
      unfold lcp
      by_cases e : x = y
      · rw [if_pos e, List.length_cons, List.take_succ_cons, ← ih s]
      · rw [if_neg e]; rfl
end CW

namespace CW
open PySem PySem.Spec PyProof.Rows L2
/-! ## 18. The law itself: each cell by its pot -/
def spRight : Sp := fun vs H Q _ => ∃ p : Addr, vs = [.ref p] ∧ Pot H p ∧ ∀ H', Chg p H H' → Q (.bl true) H'
def spLaw (K : PySem.W.Frag) : Sp := fun vs H Q _ => ∃ (a : Addr) (ns : List Int), vs = [.ref a] ∧ SqL K H a (ns.map V.int) ∧ ns.length ≤ 63 ∧ ∀ H', Q (.bl true) H'
def lawB (c : Int) (sr sp : Sp) : S := .cons (.ret (.bid .all (.lc (.call sr (.cons (.call sp (.cons (.v 0) (.cons (.v 1) (.nil))) (.nil) [.p 0, .p 1]) (.nil)) (.nil) [.p 0]) (.v 1) (.rng1 (.cons (.bi .max (.cons (.c (.int 1)) (.cons (.bi .min (.cons (.c (.int c)) (.cons (.bi .len (.cons (.v 0) (.nil))) (.nil)))) (.nil)))) (.nil))) (.nil) [1]))) (.nil)
theorem rd_lawB {K : PySem.W.Frag} {W : WX} {c : Int} (hc : 0 ≤ c ∧ c ≤ 60) (vs : List V) (H : Hp) (Q : VK) (R : XK) (h : spLaw K vs H Q R) : vs.length = 1 ∧ wS K W (lawB c spRight (spPot K)) (Dn Q) (start ["a", "b"] vs) H := by
  obtain ⟨a, ns, rfl, hs, hl, q⟩ := h
  refine ⟨rfl, Or.inl ⟨_, hs, ?_⟩⟩
  have hlen : (ns.map V.int).length = ns.length := List.length_map ..
  obtain ⟨m, hm, hm2⟩ : ∃ m : Int, (if (if ((ns.map V.int).length : Int) < c then ((ns.map V.int).length : Int) else c) > 1 then (if ((ns.map V.int).length : Int) < c then ((ns.map V.int).length : Int) else c) else 1) = m ∧ 0 ≤ m ∧ m ≤ 63 := ⟨_, rfl, by split <;> split <;> omega, by split <;> split <;> omega⟩
  refine ⟨_, rfl, ?_, ?_, ?_⟩
  · rw [hm]; omega
  · rw [hm]; omega
  rw [hm]
  intro D hD
  refine lc_range (lo := 0) (n := m.toNat) (vs := [1]) (σ := [some (.ref a), none]) (Qd := fun H1 => ∃ D' acc, V.ref D = .ref D' ∧ H1 D' = some (.lst acc) ∧ rBi K .all [.ref D'] H1 fun r H2 => H2 D' = some (.lst acc) ∧ Q r (dropA H2 D'))
    (fun k H2 => H2 D = some (.lst ((List.replicate k true).map V.bl)) ∧ ∀ b o, H b = some o → H2 b = some o) ⟨upd_same, fun b o e => keepA e hD⟩ (fun k H2 hk h => ?_) (fun H2 h => ?_)
  · obtain ⟨hd, old⟩ := h
    have hs2 : SqL K H2 a (ns.map V.int) := Grow.sql old hs
    refine ⟨rfl, ?_⟩
    refine ⟨a, ns, _, rfl, hs2, by omega, by omega, fun p x y hp x0 y0 y1 => ?_⟩
    refine ⟨p, rfl, ⟨x, y, upd_same, x0, y0, y1⟩, fun H3 ch => ?_⟩
    have hd3 := ch.old D _ (ne_of_none hd hp) (keepA hd hp)
    refine ⟨_, hd3, ?_, ?_, fun b o e => ?_⟩
    · have hz : (sizeLine : Nat) = 16777216 := sizeLine_eq
      simp only [List.length_map, List.length_replicate]; omega
    · rw [upd_same, List.replicate_succ', List.map_append]; rfl
    · have e2 := old b o e
      rw [upd_ne (ne_of_none e hD)]
      exact ch.old b o (ne_of_none e2 hp) (keepA e2 hp)
  · obtain ⟨hd, old⟩ := h
    refine ⟨D, _, rfl, hd, List.replicate m.toNat true, SqL.of hd, hd, ?_⟩
    have e : (List.replicate m.toNat true).all id = true := by
      rw [List.all_eq_true]; intro b hb; exact (List.eq_of_mem_replicate hb)
    rw [e]
    exact q _
end CW

set_option maxRecDepth 100000
set_option maxHeartbeats 1000000
namespace L34
open PySem L2 CW
structure Ad where
def sp_is_integer (K : PySem.W.Frag) (A : Ad) : Sp := spIsInt K
def sp_is_width (K : PySem.W.Frag) (A : Ad) : Sp := spIsWidth K
def sp_is_bits (K : PySem.W.Frag) (A : Ad) : Sp := spIsBits K
def sp_want_width (K : PySem.W.Frag) (A : Ad) : Sp := spWantWidth
def sp_is_address (K : PySem.W.Frag) (A : Ad) : Sp := spIsAddress K
def sp_is_stretch (K : PySem.W.Frag) (A : Ad) : Sp := spIsStretch K
def sp_want_address (K : PySem.W.Frag) (A : Ad) : Sp := spWantAddress
def sp_common (K : PySem.W.Frag) (A : Ad) : Sp := fun vs H Q _ => ∃ a b : List Nat, vs = [.str (T a), .str (T b)] ∧ Bt a ∧ Bt b ∧ a.length ≤ 1000 ∧ b.length ≤ 1000 ∧ ∀ H', Grow H H' → Q (.str (T (lcp a b))) H'
def sp_begin_alike (K : PySem.W.Frag) (A : Ad) : Sp := fun vs H Q _ => ∃ a b : List Nat, vs = [.str (T a), .str (T b)] ∧ a.length = b.length ∧ a.length ≤ 1000 ∧ Q (.int ((lcp a b).length : Nat)) H
def dn (l : List Nat) : PyData := .tuple [.str (T l), .str "down"]
def ups1 (l : List Nat) : PyData := .tuple [.str (T l), .str "up"]
def bordersN (e : List Nat) : List PyData := (List.range (e.length + 1)).map fun k => dn (e.take k)
def ups (b : List Nat) (m : Nat) : List PyData := (List.range (b.length - m)).map fun i => ups1 (b.take (b.length - i))
def dns (e : List Nat) (m : Nat) : List PyData := (List.range (e.length - m)).map fun i => dn (e.take (m + 1 + i))
def borders (b e : List Nat) : List PyData := ups b (lcp b e).length ++ dns e (lcp b e).length
def sp_borders_of (K : PySem.W.Frag) (A : Ad) : Sp := fun vs H Q _ => (∃ e : List Nat, vs = [.non, .str (T e)] ∧ e.length ≤ 1000 ∧ ∀ l H', New K H l H' (bordersN e) → Q (.ref l) H') ∨
  (∃ b e : List Nat, vs = [.str (T b), .str (T e)] ∧ b.length = e.length ∧ b.length ≤ 1000 ∧ ∀ l H', New K H l H' (borders b e) → Q (.ref l) H')
def sp__law_path (K : PySem.W.Frag) (A : Ad) : Sp := sp_borders_of K A
def sp_path (K : PySem.W.Frag) (A : Ad) : Sp := fun vs H Q _ => ∃ (w : Int) (e : List Nat), 1 ≤ w ∧ w ≤ 100 ∧ Bt e ∧ (e.length : Int) = w ∧ ((vs = [.int w, .non, .str (T e)] ∧ ∀ l H', New K H l H' (bordersN e) → Q (.ref l) H') ∨
  (∃ b : List Nat, vs = [.int w, .str (T b), .str (T e)] ∧ Bt b ∧ (b.length : Int) = w ∧ ∀ l H', New K H l H' (borders b e) → Q (.ref l) H'))
def sp__law_draw (K : PySem.W.Frag) (A : Ad) : Sp := spDraw
def sp__law_pick (K : PySem.W.Frag) (A : Ad) : Sp := spAmong K
def sp__law_pot (K : PySem.W.Frag) (A : Ad) : Sp := spPot K
def sp__law_spot (K : PySem.W.Frag) (A : Ad) : Sp := fun vs H Q _ => ∃ (p : Addr) (w : Int), vs = [.ref p, .int w] ∧ Pot H p ∧ 0 ≤ w ∧ w ≤ 200 ∧ ∀ (l : List Nat) (H' : Hp), (l.length : Int) = w → Bt l → Chg p H H' → Q (.str (T l)) H'
def sp__law_near (K : PySem.W.Frag) (A : Ad) : Sp := fun vs H Q _ => ∃ (p : Addr) (l : List Nat), vs = [.ref p, .str (T l)] ∧ Pot H p ∧ Bt l ∧ l.length ≤ 200 ∧ ∀ (l' : List Nat) (H' : Hp), l'.length = l.length → Bt l' → Chg p H H' → Q (.str (T l')) H'
def sp__law_pair_right (K : PySem.W.Frag) (A : Ad) : Sp := fun vs H Q _ => ∃ (w : Int) (a b : List Nat), vs = [.int w, .str (T a), .str (T b)] ∧ 1 ≤ w ∧ w ≤ 100 ∧ Bt a ∧ Bt b ∧ (a.length : Int) = w ∧ (b.length : Int) = w ∧ ∀ H', Grow H H' → Q (.bl true) H'
def sp__law_right (K : PySem.W.Frag) (A : Ad) : Sp := fun vs H Q _ => ∃ p : Addr, vs = [.ref p] ∧ Pot H p ∧ ∀ H', Chg p H H' → Q (.bl true) H'
def sp_law (K : PySem.W.Frag) (A : Ad) : Sp := fun vs H Q _ => ∃ (a : Addr) (ns : List Int), vs = [.ref a] ∧ SqL K H a (ns.map V.int) ∧ ns.length ≤ 63 ∧ ∀ H', Q (.bl true) H'


def top (i : Nat) : Stmt := PySem.Challenge.pw_coverways_k34_whole_paths.main.body.getD i (.Pass ⟨0, 0, 0, 0⟩)
abbrev st__law_draw : Stmt := top 23
abbrev N__law_draw : List Str := ["_law_pot_here", "_law_many", "_law_digit"]
theorem s__law_draw : FnScope N__law_draw ["_law_pot_here", "_law_many"] (defScope st__law_draw) := ⟨rfl, rfl, rfl, by decide +kernel, rfl, by decide +kernel, by decide +kernel⟩
def tb__law_draw (K : PySem.W.Frag) (A : Ad) : List (Str × Gv) := [("divmod", .bi .divmod), ("int", .ty .int (some .int))]
def b__law_draw (K : PySem.W.Frag) (A : Ad) : S := .cons (.ite (.cmp .Gt (.sub (.v 0) (.c (.int 0))) (.c (.int 0))) (.cons (.set (.tup (.cons (.sub (.v 0) (.c (.int 0))) (.cons (.v 2) (.nil)))) (.bi .divmod (.cons (.sub (.v 0) (.c (.int 0))) (.cons (.v 1) (.nil))))) (.cons (.ret (.v 2)) (.nil))) (.nil)) (.cons (.set (.sub (.v 0) (.c (.int 1))) (.bin .Mod (.bi .int (.cons (.bin .Add (.bin .Mult (.sub (.v 0) (.c (.int 1))) (.c (.int 48271))) (.c (.int 11213))) (.nil))) (.c (.int 2147483629)))) (.cons (.ret (.bin .Mod (.bi .int (.cons (.bin .FloorDiv (.bin .Mod (.bi .int (.cons (.bin .Mult (.sub (.v 0) (.c (.int 1))) (.sub (.v 0) (.c (.int 1)))) (.nil))) (.c (.int 2147483549))) (.c (.int 13))) (.nil))) (.v 1))) (.nil)))
theorem c__law_draw (K : PySem.W.Frag) (A : Ad) : compSs 40 ⟨N__law_draw, defScope st__law_draw, fun _ => true, tb__law_draw K A⟩ (defBody st__law_draw) = some (b__law_draw K A) := by kernel_rfl
abbrev st__law_pick : Stmt := top 24
abbrev N__law_pick : List Str := ["_law_pot_here", "_law_some"]
theorem s__law_pick : FnScope N__law_pick ["_law_pot_here", "_law_some"] (defScope st__law_pick) := ⟨rfl, rfl, rfl, by decide +kernel, rfl, by decide +kernel, by decide +kernel⟩
def tb__law_pick (K : PySem.W.Frag) (A : Ad) : List (Str × Gv) := [("_law_draw", .fn ["_law_pot_here", "_law_many"] [(2, [], [.p 0, .p 1])] (sp__law_draw K A)), ("len", .bi .len)]
def b__law_pick (K : PySem.W.Frag) (A : Ad) : S := .cons (.ret (.sub (.v 1) (.call (sp__law_draw K A) (.cons (.v 0) (.cons (.bi .len (.cons (.v 1) (.nil))) (.nil))) (.nil) [.p 0, .p 1]))) (.nil)
theorem c__law_pick (K : PySem.W.Frag) (A : Ad) : compSs 40 ⟨N__law_pick, defScope st__law_pick, fun _ => true, tb__law_pick K A⟩ (defBody st__law_pick) = some (b__law_pick K A) := by kernel_rfl
abbrev st__law_spot : Stmt := top 25
abbrev N__law_spot : List Str := ["_law_pot_here", "_law_wide", "_law_turn"]
theorem s__law_spot : FnScope N__law_spot ["_law_pot_here", "_law_wide"] (defScope st__law_spot) := ⟨rfl, rfl, rfl, by decide +kernel, rfl, by decide +kernel, by decide +kernel⟩
def tb__law_spot (K : PySem.W.Frag) (A : Ad) : List (Str × Gv) := [("range", .rng), ("_law_draw", .fn ["_law_pot_here", "_law_many"] [(2, [], [.p 0, .p 1])] (sp__law_draw K A))]
def b__law_spot (K : PySem.W.Frag) (A : Ad) : S := .cons (.ret (.joind (.c (.str "")) (.lc (.sub (.c (.str "01")) (.call (sp__law_draw K A) (.cons (.v 0) (.cons (.c (.int 2)) (.nil))) (.nil) [.p 0, .p 1])) (.v 2) (.rng1 (.cons (.v 1) (.nil))) (.nil) [2]))) (.nil)
theorem c__law_spot (K : PySem.W.Frag) (A : Ad) : compSs 40 ⟨N__law_spot, defScope st__law_spot, fun _ => true, tb__law_spot K A⟩ (defBody st__law_spot) = some (b__law_spot K A) := by kernel_rfl
abbrev st__law_near : Stmt := top 26
abbrev N__law_near : List Str := ["_law_pot_here", "_law_spot_here", "_law_at"]
theorem s__law_near : FnScope N__law_near ["_law_pot_here", "_law_spot_here"] (defScope st__law_near) := ⟨rfl, rfl, rfl, by decide +kernel, rfl, by decide +kernel, by decide +kernel⟩
def tb__law_near (K : PySem.W.Frag) (A : Ad) : List (Str × Gv) := [("_law_draw", .fn ["_law_pot_here", "_law_many"] [(2, [], [.p 0, .p 1])] (sp__law_draw K A)), ("len", .bi .len), ("_law_spot", .fn ["_law_pot_here", "_law_wide"] [(2, [], [.p 0, .p 1])] (sp__law_spot K A))]
def b__law_near (K : PySem.W.Frag) (A : Ad) : S := .cons (.set (.v 2) (.call (sp__law_draw K A) (.cons (.v 0) (.cons (.bin .Add (.bi .len (.cons (.v 1) (.nil))) (.c (.int 1))) (.nil))) (.nil) [.p 0, .p 1])) (.cons (.ite (.cmp .Eq (.v 2) (.bi .len (.cons (.v 1) (.nil)))) (.cons (.ret (.v 1)) (.nil)) (.nil)) (.cons (.ret (.bin .Add (.bin .Add (.slc (.v 1) (.nil) (.cons (.v 2) .nil)) (.sub (.dct (.cons (.c (.str "0")) (.cons (.c (.str "1")) (.nil))) (.cons (.c (.str "1")) (.cons (.c (.str "0")) (.nil)))) (.sub (.v 1) (.v 2)))) (.call (sp__law_spot K A) (.cons (.v 0) (.cons (.bin .Sub (.bin .Sub (.bi .len (.cons (.v 1) (.nil))) (.v 2)) (.c (.int 1))) (.nil))) (.nil) [.p 0, .p 1]))) (.nil)))
theorem c__law_near (K : PySem.W.Frag) (A : Ad) : compSs 40 ⟨N__law_near, defScope st__law_near, fun _ => true, tb__law_near K A⟩ (defBody st__law_near) = some (b__law_near K A) := by kernel_rfl
abbrev st_is_integer : Stmt := top 7
abbrev N_is_integer : List Str := ["value"]
theorem s_is_integer : FnScope N_is_integer ["value"] (defScope st_is_integer) := ⟨rfl, rfl, rfl, by decide +kernel, rfl, by decide +kernel, by decide +kernel⟩
def tb_is_integer (K : PySem.W.Frag) (A : Ad) : List (Str × Gv) := [("isinstance", .isi), ("int", .ty .int (some .int)), ("bool", .ty .bool (none))]
def b_is_integer (K : PySem.W.Frag) (A : Ad) : S := .cons (.ret (.and (.isA (.v 0) [.int]) (.not (.isA (.v 0) [.bool])))) (.nil)
theorem c_is_integer (K : PySem.W.Frag) (A : Ad) : compSs 40 ⟨N_is_integer, defScope st_is_integer, fun _ => true, tb_is_integer K A⟩ (defBody st_is_integer) = some (b_is_integer K A) := by kernel_rfl
abbrev st_is_width : Stmt := top 8
abbrev N_is_width : List Str := ["value"]
theorem s_is_width : FnScope N_is_width ["value"] (defScope st_is_width) := ⟨rfl, rfl, rfl, by decide +kernel, rfl, by decide +kernel, by decide +kernel⟩
def tb_is_width (K : PySem.W.Frag) (A : Ad) : List (Str × Gv) := [("is_integer", .fn ["value"] [(1, [], [.p 0])] (sp_is_integer K A)), ("MOST_WIDTH", .con (.int 100))]
def b_is_width (K : PySem.W.Frag) (A : Ad) : S := .cons (.ret (.and (.call (sp_is_integer K A) (.cons (.v 0) (.nil)) (.nil) [.p 0]) (.cmp2 .LtE .LtE (.c (.int 1)) (.v 0) (.c (.int 100))))) (.nil)
theorem c_is_width (K : PySem.W.Frag) (A : Ad) : compSs 40 ⟨N_is_width, defScope st_is_width, fun _ => true, tb_is_width K A⟩ (defBody st_is_width) = some (b_is_width K A) := by kernel_rfl
abbrev st_want_width : Stmt := top 12
abbrev N_want_width : List Str := ["width"]
theorem s_want_width : FnScope N_want_width ["width"] (defScope st_want_width) := ⟨rfl, rfl, rfl, by decide +kernel, rfl, by decide +kernel, by decide +kernel⟩
def tb_want_width (K : PySem.W.Frag) (A : Ad) : List (Str × Gv) := [("is_width", .fn ["value"] [(1, [], [.p 0])] (sp_is_width K A))]
def b_want_width (K : PySem.W.Frag) (A : Ad) : S := .cons (.ite (.not (.call (sp_is_width K A) (.cons (.v 0) (.nil)) (.nil) [.p 0])) (.cons (.bad) (.nil)) (.nil)) (.nil)
theorem c_want_width (K : PySem.W.Frag) (A : Ad) : compSs 40 ⟨N_want_width, defScope st_want_width, fun _ => true, tb_want_width K A⟩ (defBody st_want_width) = some (b_want_width K A) := by kernel_rfl
abbrev st_is_bits : Stmt := top 9
abbrev N_is_bits : List Str := ["value", "sign"]
theorem s_is_bits : FnScope N_is_bits ["value"] (defScope st_is_bits) := ⟨rfl, rfl, rfl, by decide +kernel, rfl, by decide +kernel, by decide +kernel⟩
def tb_is_bits (K : PySem.W.Frag) (A : Ad) : List (Str × Gv) := [("isinstance", .isi), ("str", .ty .str (some .str)), ("all", .bi .all)]
def b_is_bits (K : PySem.W.Frag) (A : Ad) : S := .cons (.ret (.and (.isA (.v 0) [.str]) (.bid .all (.lc (.inT false (.v 1) (.cons (.c (.str "0")) (.cons (.c (.str "1")) (.nil)))) (.v 1) (.v 0) (.nil) [1])))) (.nil)
theorem c_is_bits (K : PySem.W.Frag) (A : Ad) : compSs 40 ⟨N_is_bits, defScope st_is_bits, fun _ => true, tb_is_bits K A⟩ (defBody st_is_bits) = some (b_is_bits K A) := by kernel_rfl
abbrev st_is_address : Stmt := top 10
abbrev N_is_address : List Str := ["width", "value"]
theorem s_is_address : FnScope N_is_address ["width", "value"] (defScope st_is_address) := ⟨rfl, rfl, rfl, by decide +kernel, rfl, by decide +kernel, by decide +kernel⟩
def tb_is_address (K : PySem.W.Frag) (A : Ad) : List (Str × Gv) := [("want_width", .fn ["width"] [(1, [], [.p 0])] (sp_want_width K A)), ("is_bits", .fn ["value"] [(1, [], [.p 0])] (sp_is_bits K A)), ("len", .bi .len)]
def b_is_address (K : PySem.W.Frag) (A : Ad) : S := .cons (.ex (.call (sp_want_width K A) (.cons (.v 0) (.nil)) (.nil) [.p 0])) (.cons (.ret (.and (.call (sp_is_bits K A) (.cons (.v 1) (.nil)) (.nil) [.p 0]) (.cmp .Eq (.bi .len (.cons (.v 1) (.nil))) (.v 0)))) (.nil))
theorem c_is_address (K : PySem.W.Frag) (A : Ad) : compSs 40 ⟨N_is_address, defScope st_is_address, fun _ => true, tb_is_address K A⟩ (defBody st_is_address) = some (b_is_address K A) := by kernel_rfl
abbrev st_want_address : Stmt := top 13
abbrev N_want_address : List Str := ["width", "value"]
theorem s_want_address : FnScope N_want_address ["width", "value"] (defScope st_want_address) := ⟨rfl, rfl, rfl, by decide +kernel, rfl, by decide +kernel, by decide +kernel⟩
def tb_want_address (K : PySem.W.Frag) (A : Ad) : List (Str × Gv) := [("is_address", .fn ["width", "value"] [(2, [], [.p 0, .p 1])] (sp_is_address K A))]
def b_want_address (K : PySem.W.Frag) (A : Ad) : S := .cons (.ite (.not (.call (sp_is_address K A) (.cons (.v 0) (.cons (.v 1) (.nil))) (.nil) [.p 0, .p 1])) (.cons (.bad) (.nil)) (.nil)) (.nil)
theorem c_want_address (K : PySem.W.Frag) (A : Ad) : compSs 40 ⟨N_want_address, defScope st_want_address, fun _ => true, tb_want_address K A⟩ (defBody st_want_address) = some (b_want_address K A) := by kernel_rfl
abbrev st_begin_alike : Stmt := top 18
abbrev N_begin_alike : List Str := ["one", "other", "many"]
theorem s_begin_alike : FnScope N_begin_alike ["one", "other"] (defScope st_begin_alike) := ⟨rfl, rfl, rfl, by decide +kernel, rfl, by decide +kernel, by decide +kernel⟩
def tb_begin_alike (K : PySem.W.Frag) (A : Ad) : List (Str × Gv) := [("len", .bi .len)]
def b_begin_alike (K : PySem.W.Frag) (A : Ad) : S := .cons (.set (.v 2) (.c (.int 0))) (.cons (.while_ (.and (.cmp .Lt (.v 2) (.bi .len (.cons (.v 0) (.nil)))) (.cmp .Eq (.sub (.v 0) (.v 2)) (.sub (.v 1) (.v 2)))) (.cons (.set (.v 2) (.bin .Add (.v 2) (.c (.int 1)))) (.nil))) (.cons (.ret (.v 2)) (.nil)))
theorem c_begin_alike (K : PySem.W.Frag) (A : Ad) : compSs 40 ⟨N_begin_alike, defScope st_begin_alike, fun _ => true, tb_begin_alike K A⟩ (defBody st_begin_alike) = some (b_begin_alike K A) := by kernel_rfl
abbrev st_borders_of : Stmt := top 19
abbrev N_borders_of : List Str := ["begin", "end", "many", "up", "size"]
theorem s_borders_of : FnScope N_borders_of ["begin", "end"] (defScope st_borders_of) := ⟨rfl, rfl, rfl, by decide +kernel, rfl, by decide +kernel, by decide +kernel⟩
def tb_borders_of (K : PySem.W.Frag) (A : Ad) : List (Str × Gv) := [("range", .rng), ("len", .bi .len), ("DOWN", .con (.str "down")), ("begin_alike", .fn ["one", "other"] [(2, [], [.p 0, .p 1])] (sp_begin_alike K A)), ("UP", .con (.str "up"))]
def b_borders_of (K : PySem.W.Frag) (A : Ad) : S := .cons (.ite (.cmp .Is (.v 0) (.c .non)) (.cons (.ret (.lc (.tup (.cons (.slc (.v 1) (.nil) (.cons (.v 4) .nil)) (.cons (.c (.str "down")) (.nil)))) (.v 4) (.rng1 (.cons (.bin .Add (.bi .len (.cons (.v 1) (.nil))) (.c (.int 1))) (.nil))) (.nil) [4])) (.nil)) (.nil)) (.cons (.set (.v 2) (.call (sp_begin_alike K A) (.cons (.v 0) (.cons (.v 1) (.nil))) (.nil) [.p 0, .p 1])) (.cons (.set (.v 3) (.lc (.tup (.cons (.slc (.v 0) (.nil) (.cons (.v 4) .nil)) (.cons (.c (.str "up")) (.nil)))) (.v 4) (.rng3 (.cons (.bi .len (.cons (.v 0) (.nil))) (.cons (.v 2) (.cons (.un .USub (.c (.int 1))) (.nil))))) (.nil) [4])) (.cons (.ret (.bin .Add (.v 3) (.lc (.tup (.cons (.slc (.v 1) (.nil) (.cons (.v 4) .nil)) (.cons (.c (.str "down")) (.nil)))) (.v 4) (.rng2 (.cons (.bin .Add (.v 2) (.c (.int 1))) (.cons (.bin .Add (.bi .len (.cons (.v 1) (.nil))) (.c (.int 1))) (.nil)))) (.nil) [4]))) (.nil))))
theorem c_borders_of (K : PySem.W.Frag) (A : Ad) : compSs 40 ⟨N_borders_of, defScope st_borders_of, fun _ => true, tb_borders_of K A⟩ (defBody st_borders_of) = some (b_borders_of K A) := by kernel_rfl
abbrev st_path : Stmt := top 20
abbrev N_path : List Str := ["width", "begin", "end"]
theorem s_path : FnScope N_path ["width", "begin", "end"] (defScope st_path) := ⟨rfl, rfl, rfl, by decide +kernel, rfl, by decide +kernel, by decide +kernel⟩
def tb_path (K : PySem.W.Frag) (A : Ad) : List (Str × Gv) := [("want_width", .fn ["width"] [(1, [], [.p 0])] (sp_want_width K A)), ("want_address", .fn ["width", "value"] [(2, [], [.p 0, .p 1])] (sp_want_address K A)), ("borders_of", .fn ["begin", "end"] [(2, [], [.p 0, .p 1])] (sp_borders_of K A))]
def b_path (K : PySem.W.Frag) (A : Ad) : S := .cons (.ex (.call (sp_want_width K A) (.cons (.v 0) (.nil)) (.nil) [.p 0])) (.cons (.ite (.cmp .IsNot (.v 1) (.c .non)) (.cons (.ex (.call (sp_want_address K A) (.cons (.v 0) (.cons (.v 1) (.nil))) (.nil) [.p 0, .p 1])) (.nil)) (.nil)) (.cons (.ex (.call (sp_want_address K A) (.cons (.v 0) (.cons (.v 2) (.nil))) (.nil) [.p 0, .p 1])) (.cons (.ret (.call (sp_borders_of K A) (.cons (.v 1) (.cons (.v 2) (.nil))) (.nil) [.p 0, .p 1])) (.nil))))
theorem c_path (K : PySem.W.Frag) (A : Ad) : compSs 40 ⟨N_path, defScope st_path, fun _ => true, tb_path K A⟩ (defBody st_path) = some (b_path K A) := by kernel_rfl
abbrev st__law_path : Stmt := top 27
abbrev N__law_path : List Str := ["_law_begun", "_law_to", "_law_found", "_law_size"]
theorem s__law_path : FnScope N__law_path ["_law_begun", "_law_to"] (defScope st__law_path) := ⟨rfl, rfl, rfl, by decide +kernel, rfl, by decide +kernel, by decide +kernel⟩
def tb__law_path (K : PySem.W.Frag) (A : Ad) : List (Str × Gv) := [("range", .rng), ("len", .bi .len)]
def b__law_path (K : PySem.W.Frag) (A : Ad) : S := .cons (.ite (.cmp .Is (.v 0) (.c .non)) (.cons (.ret (.lc (.tup (.cons (.slc (.v 1) (.nil) (.cons (.v 3) .nil)) (.cons (.c (.str "down")) (.nil)))) (.v 3) (.rng1 (.cons (.bin .Add (.bi .len (.cons (.v 1) (.nil))) (.c (.int 1))) (.nil))) (.nil) [3])) (.nil)) (.nil)) (.cons (.set (.v 2) (.lc (.tup (.cons (.slc (.v 0) (.nil) (.cons (.v 3) .nil)) (.cons (.c (.str "up")) (.nil)))) (.v 3) (.rng3 (.cons (.bi .len (.cons (.v 0) (.nil))) (.cons (.c (.int 0)) (.cons (.un .USub (.c (.int 1))) (.nil))))) (.cons (.cmp .NotEq (.slc (.v 0) (.nil) (.cons (.v 3) .nil)) (.slc (.v 1) (.nil) (.cons (.v 3) .nil))) .nil) [3])) (.cons (.ret (.bin .Add (.v 2) (.lc (.tup (.cons (.slc (.v 1) (.nil) (.cons (.v 3) .nil)) (.cons (.c (.str "down")) (.nil)))) (.v 3) (.rng2 (.cons (.c (.int 1)) (.cons (.bin .Add (.bi .len (.cons (.v 1) (.nil))) (.c (.int 1))) (.nil)))) (.cons (.cmp .NotEq (.slc (.v 0) (.nil) (.cons (.v 3) .nil)) (.slc (.v 1) (.nil) (.cons (.v 3) .nil))) .nil) [3]))) (.nil)))
theorem c__law_path (K : PySem.W.Frag) (A : Ad) : compSs 40 ⟨N__law_path, defScope st__law_path, fun _ => true, tb__law_path K A⟩ (defBody st__law_path) = some (b__law_path K A) := by kernel_rfl
abbrev st_common : Stmt := top 14
abbrev N_common : List Str := ["one", "other", "value", "many"]
theorem s_common : FnScope N_common ["one", "other"] (defScope st_common) := ⟨rfl, rfl, rfl, by decide +kernel, rfl, by decide +kernel, by decide +kernel⟩
def tb_common (K : PySem.W.Frag) (A : Ad) : List (Str × Gv) := [("is_bits", .fn ["value"] [(1, [], [.p 0])] (sp_is_bits K A)), ("min", .bi .min), ("len", .bi .len)]
def b_common (K : PySem.W.Frag) (A : Ad) : S := .cons (.for_ (.v 2) (.tup (.cons (.v 0) (.cons (.v 1) (.nil)))) (.cons (.ite (.not (.call (sp_is_bits K A) (.cons (.v 2) (.nil)) (.nil) [.p 0])) (.cons (.bad) (.nil)) (.nil)) (.nil))) (.cons (.set (.v 3) (.c (.int 0))) (.cons (.while_ (.and (.cmp .Lt (.v 3) (.bi .min (.cons (.bi .len (.cons (.v 0) (.nil))) (.cons (.bi .len (.cons (.v 1) (.nil))) (.nil))))) (.cmp .Eq (.sub (.v 0) (.v 3)) (.sub (.v 1) (.v 3)))) (.cons (.set (.v 3) (.bin .Add (.v 3) (.c (.int 1)))) (.nil))) (.cons (.ret (.slc (.v 0) (.nil) (.cons (.v 3) .nil))) (.nil))))
theorem c_common (K : PySem.W.Frag) (A : Ad) : compSs 40 ⟨N_common, defScope st_common, fun _ => true, tb_common K A⟩ (defBody st_common) = some (b_common K A) := by kernel_rfl
abbrev st_is_stretch : Stmt := top 11
abbrev N_is_stretch : List Str := ["width", "value"]
theorem s_is_stretch : FnScope N_is_stretch ["width", "value"] (defScope st_is_stretch) := ⟨rfl, rfl, rfl, by decide +kernel, rfl, by decide +kernel, by decide +kernel⟩
def tb_is_stretch (K : PySem.W.Frag) (A : Ad) : List (Str × Gv) := [("want_width", .fn ["width"] [(1, [], [.p 0])] (sp_want_width K A)), ("is_bits", .fn ["value"] [(1, [], [.p 0])] (sp_is_bits K A)), ("len", .bi .len)]
def b_is_stretch (K : PySem.W.Frag) (A : Ad) : S := .cons (.ex (.call (sp_want_width K A) (.cons (.v 0) (.nil)) (.nil) [.p 0])) (.cons (.ret (.and (.call (sp_is_bits K A) (.cons (.v 1) (.nil)) (.nil) [.p 0]) (.cmp .LtE (.bi .len (.cons (.v 1) (.nil))) (.v 0)))) (.nil))
theorem c_is_stretch (K : PySem.W.Frag) (A : Ad) : compSs 40 ⟨N_is_stretch, defScope st_is_stretch, fun _ => true, tb_is_stretch K A⟩ (defBody st_is_stretch) = some (b_is_stretch K A) := by kernel_rfl
abbrev st__law_pair_right : Stmt := top 28
abbrev N__law_pair_right : List Str := ["_law_wide", "_law_spot_here", "_law_mate", "_law_due", "_law_told", "_law_again", "_law_many", "_law_back", "_law_border", "_law_way"]
theorem s__law_pair_right : FnScope N__law_pair_right ["_law_wide", "_law_spot_here", "_law_mate"] (defScope st__law_pair_right) := ⟨rfl, rfl, rfl, by decide +kernel, rfl, by decide +kernel, by decide +kernel⟩
def tb__law_pair_right (K : PySem.W.Frag) (A : Ad) : List (Str × Gv) := [("_law_path", .fn ["_law_begun", "_law_to"] [(2, [], [.p 0, .p 1])] (sp__law_path K A)), ("path", .fn ["width", "begin", "end"] [(0, ["end", "width", "begin"], [.q 1, .q 2, .q 0]), (3, [], [.p 0, .p 1, .p 2])] (sp_path K A)), ("repr", .bi .repr), ("all", .bi .all), ("is_stretch", .fn ["width", "value"] [(2, [], [.p 0, .p 1])] (sp_is_stretch K A)), ("len", .bi .len), ("common", .fn ["one", "other"] [(2, [], [.p 0, .p 1])] (sp_common K A))]
def b__law_pair_right (K : PySem.W.Frag) (A : Ad) : S := .cons (.set (.v 3) (.call (sp__law_path K A) (.cons (.v 1) (.cons (.v 2) (.nil))) (.nil) [.p 0, .p 1])) (.cons (.par [4, 5] (.cons (.call (sp_path K A) (.cons (.v 0) (.cons (.v 1) (.cons (.v 2) (.nil)))) (.nil) [.p 0, .p 1, .p 2]) (.cons (.call (sp_path K A) (.nil) (.cons (.v 2) (.cons (.v 0) (.cons (.v 1) (.nil)))) [.q 1, .q 2, .q 0]) (.nil)))) (.cons (.ite (.or (.cmp .NotEq (.bi .repr (.cons (.lst (.cons (.v 4) (.cons (.v 5) (.nil)))) (.nil))) (.bi .repr (.cons (.lst (.cons (.v 3) (.cons (.v 3) (.nil)))) (.nil)))) (.not (.bid .all (.lc (.call (sp_is_stretch K A) (.cons (.v 0) (.cons (.v 8) (.nil))) (.nil) [.p 0, .p 1]) (.tup (.cons (.v 8) (.cons (.v 9) (.nil)))) (.v 4) (.nil) [8, 9])))) (.cons (.ret (.c (.bl false))) (.nil)) (.nil)) (.cons (.set (.v 6) (.bin .Sub (.v 0) (.bi .len (.cons (.call (sp_common K A) (.cons (.v 1) (.cons (.v 2) (.nil))) (.nil) [.p 0, .p 1]) (.nil))))) (.cons (.ite (.or (.cmp .NotEq (.bi .len (.cons (.v 4) (.nil))) (.bin .Mult (.c (.int 2)) (.v 6))) (.cmp .NotEq (.lc (.v 9) (.tup (.cons (.v 8) (.cons (.v 9) (.nil)))) (.v 4) (.nil) [8, 9]) (.bin .Add (.bin .Mult (.lst (.cons (.c (.str "up")) (.nil))) (.v 6)) (.bin .Mult (.lst (.cons (.c (.str "down")) (.nil))) (.v 6))))) (.cons (.ret (.c (.bl false))) (.nil)) (.nil)) (.cons (.set (.v 7) (.lc (.tup (.cons (.v 8) (.cons (.sub (.dct (.cons (.c (.str "up")) (.cons (.c (.str "down")) (.nil))) (.cons (.c (.str "down")) (.cons (.c (.str "up")) (.nil)))) (.v 9)) (.nil)))) (.tup (.cons (.v 8) (.cons (.v 9) (.nil)))) (.it (.rev (.v 4))) (.nil) [8, 9])) (.cons (.ite (.cmp .NotEq (.call (sp_path K A) (.cons (.v 0) (.cons (.v 2) (.cons (.v 1) (.nil)))) (.nil) [.p 0, .p 1, .p 2]) (.v 7)) (.cons (.ret (.c (.bl false))) (.nil)) (.nil)) (.cons (.ex (.mt .clear (.v 4) .nil)) (.cons (.ret (.cmp .Eq (.call (sp_path K A) (.cons (.v 0) (.cons (.v 1) (.cons (.v 2) (.nil)))) (.nil) [.p 0, .p 1, .p 2]) (.v 3))) (.nil)))))))))
theorem c__law_pair_right (K : PySem.W.Frag) (A : Ad) : compSs 40 ⟨N__law_pair_right, defScope st__law_pair_right, fun _ => true, tb__law_pair_right K A⟩ (defBody st__law_pair_right) = some (b__law_pair_right K A) := by kernel_rfl
abbrev st__law_right : Stmt := top 29
abbrev N__law_right : List Str := ["_law_pot_here", "_law_wide", "_law_spot_here", "_law_turn", "_law_mate", "_law_told"]
theorem s__law_right : FnScope N__law_right ["_law_pot_here"] (defScope st__law_right) := ⟨rfl, rfl, rfl, by decide +kernel, rfl, by decide +kernel, by decide +kernel⟩
def tb__law_right (K : PySem.W.Frag) (A : Ad) : List (Str × Gv) := [("_law_pick", .fn ["_law_pot_here", "_law_some"] [(2, [], [.p 0, .p 1])] (sp__law_pick K A)), ("_law_spot", .fn ["_law_pot_here", "_law_wide"] [(2, [], [.p 0, .p 1])] (sp__law_spot K A)), ("range", .rng), ("_law_near", .fn ["_law_pot_here", "_law_spot_here"] [(2, [], [.p 0, .p 1])] (sp__law_near K A)), ("_law_pair_right", .fn ["_law_wide", "_law_spot_here", "_law_mate"] [(3, [], [.p 0, .p 1, .p 2])] (sp__law_pair_right K A)), ("path", .fn ["width", "begin", "end"] [(3, [], [.p 0, .p 1, .p 2]), (0, ["begin", "end", "width"], [.q 2, .q 0, .q 1])] (sp_path K A)), ("repr", .bi .repr), ("_law_path", .fn ["_law_begun", "_law_to"] [(2, [], [.p 0, .p 1])] (sp__law_path K A)), ("len", .bi .len)]
def b__law_right (K : PySem.W.Frag) (A : Ad) : S := .cons (.set (.v 1) (.call (sp__law_pick K A) (.cons (.v 0) (.cons (.lst (.cons (.c (.int 1)) (.cons (.c (.int 2)) (.cons (.c (.int 3)) (.cons (.c (.int 4)) (.cons (.c (.int 5)) (.cons (.c (.int 6)) (.cons (.c (.int 98)) (.cons (.c (.int 99)) (.cons (.c (.int 100)) (.nil))))))))))) (.nil))) (.nil) [.p 0, .p 1])) (.cons (.set (.v 2) (.call (sp__law_spot K A) (.cons (.v 0) (.cons (.v 1) (.nil))) (.nil) [.p 0, .p 1])) (.cons (.for_ (.v 3) (.rng1 (.cons (.c (.int 4)) (.nil))) (.cons (.set (.v 4) (.call (sp__law_near K A) (.cons (.v 0) (.cons (.v 2) (.nil))) (.nil) [.p 0, .p 1])) (.cons (.ite (.or (.not (.call (sp__law_pair_right K A) (.cons (.v 1) (.cons (.v 2) (.cons (.v 4) (.nil)))) (.nil) [.p 0, .p 1, .p 2])) (.cmp .NotEq (.call (sp_path K A) (.cons (.v 1) (.cons (.v 2) (.cons (.v 2) (.nil)))) (.nil) [.p 0, .p 1, .p 2]) (.lst (.nil)))) (.cons (.ret (.c (.bl false))) (.nil)) (.nil)) (.cons (.set (.v 5) (.call (sp_path K A) (.cons (.v 1) (.cons (.c .non) (.cons (.v 4) (.nil)))) (.nil) [.p 0, .p 1, .p 2])) (.cons (.ite (.cmp .NotEq (.bi .repr (.cons (.lst (.cons (.v 5) (.cons (.call (sp_path K A) (.nil) (.cons (.c .non) (.cons (.v 4) (.cons (.v 1) (.nil)))) [.q 2, .q 0, .q 1]) (.nil)))) (.nil))) (.bi .repr (.cons (.bin .Mult (.lst (.cons (.call (sp__law_path K A) (.cons (.c .non) (.cons (.v 4) (.nil))) (.nil) [.p 0, .p 1]) (.nil))) (.c (.int 2))) (.nil)))) (.cons (.ret (.c (.bl false))) (.nil)) (.nil)) (.cons (.ite (.or (.cmp .NotEq (.bi .len (.cons (.v 5) (.nil))) (.bin .Add (.v 1) (.c (.int 1)))) (.or (.cmp .NotEq (.sub (.v 5) (.c (.int 0))) (.tup (.cons (.c (.str "")) (.cons (.c (.str "down")) (.nil))))) (.cmp .NotEq (.sub (.v 5) (.un .USub (.c (.int 1)))) (.tup (.cons (.v 4) (.cons (.c (.str "down")) (.nil))))))) (.cons (.ret (.c (.bl false))) (.nil)) (.nil)) (.cons (.ex (.mt .append (.v 5) (.cons (.c (.int 0)) (.nil)))) (.cons (.ite (.cmp .NotEq (.call (sp_path K A) (.cons (.v 1) (.cons (.c .non) (.cons (.v 4) (.nil)))) (.nil) [.p 0, .p 1, .p 2]) (.slc (.v 5) (.nil) (.cons (.un .USub (.c (.int 1))) .nil))) (.cons (.ret (.c (.bl false))) (.nil)) (.nil)) (.cons (.set (.v 2) (.call (sp__law_pick K A) (.cons (.v 0) (.cons (.lst (.cons (.v 4) (.cons (.call (sp__law_spot K A) (.cons (.v 0) (.cons (.v 1) (.nil))) (.nil) [.p 0, .p 1]) (.nil)))) (.nil))) (.nil) [.p 0, .p 1])) (.nil)))))))))) (.cons (.ret (.c (.bl true))) (.nil))))
theorem c__law_right (K : PySem.W.Frag) (A : Ad) : compSs 40 ⟨N__law_right, defScope st__law_right, fun _ => true, tb__law_right K A⟩ (defBody st__law_right) = some (b__law_right K A) := by kernel_rfl
abbrev st__law_pot : Stmt := top 22
abbrev N__law_pot : List Str := ["_law_script", "_law_k", "_law_start"]
theorem s__law_pot : FnScope N__law_pot ["_law_script", "_law_k"] (defScope st__law_pot) := ⟨rfl, rfl, rfl, by decide +kernel, rfl, by decide +kernel, by decide +kernel⟩
def tb__law_pot (K : PySem.W.Frag) (A : Ad) : List (Str × Gv) := [("len", .bi .len), ("abs", .bi .abs), ("int", .ty .int (some .int)), ("max", .bi .max)]
def b__law_pot (K : PySem.W.Frag) (A : Ad) : S := .cons (.set (.v 2) (.bin .Add (.bin .Mult (.c (.int 61)) (.v 1)) (.c (.int 37)))) (.cons (.ite (.cmp .Lt (.v 1) (.bi .len (.cons (.v 0) (.nil)))) (.cons (.set (.v 2) (.bi .abs (.cons (.sub (.v 0) (.v 1)) (.nil)))) (.nil)) (.nil)) (.cons (.ret (.lst (.cons (.bi .max (.cons (.c (.int 0)) (.cons (.bin .Sub (.v 2) (.bin .Pow (.c (.int 10)) (.c (.int 18)))) (.nil)))) (.cons (.bin .Add (.bin .Mod (.bi .int (.cons (.bin .Add (.bin .Add (.bin .Mult (.bin .Mod (.bi .int (.cons (.v 2) (.nil))) (.c (.int 2147483587))) (.c (.int 48271))) (.bin .Mult (.c (.int 7937)) (.v 1))) (.c (.int 79))) (.nil))) (.c (.int 2147483629))) (.c (.int 1))) (.nil))))) (.nil)))
theorem c__law_pot (K : PySem.W.Frag) (A : Ad) : compSs 40 ⟨N__law_pot, defScope st__law_pot, fun _ => true, tb__law_pot K A⟩ (defBody st__law_pot) = some (b__law_pot K A) := by kernel_rfl
abbrev st_law : Stmt := top 30
abbrev N_law : List Str := ["_law_script", "_law_k"]
theorem s_law : FnScope N_law ["_law_script"] (defScope st_law) := ⟨rfl, rfl, rfl, by decide +kernel, rfl, by decide +kernel, by decide +kernel⟩
def tb_law (K : PySem.W.Frag) (A : Ad) : List (Str × Gv) := [("all", .bi .all), ("range", .rng), ("max", .bi .max), ("min", .bi .min), ("len", .bi .len), ("_law_right", .fn ["_law_pot_here"] [(1, [], [.p 0])] (sp__law_right K A)), ("_law_pot", .fn ["_law_script", "_law_k"] [(2, [], [.p 0, .p 1])] (sp__law_pot K A))]
def b_law (K : PySem.W.Frag) (A : Ad) : S := .cons (.ret (.bid .all (.lc (.call (sp__law_right K A) (.cons (.call (sp__law_pot K A) (.cons (.v 0) (.cons (.v 1) (.nil))) (.nil) [.p 0, .p 1]) (.nil)) (.nil) [.p 0]) (.v 1) (.rng1 (.cons (.bi .max (.cons (.c (.int 1)) (.cons (.bi .min (.cons (.c (.int 4)) (.cons (.bi .len (.cons (.v 0) (.nil))) (.nil)))) (.nil)))) (.nil))) (.nil) [1]))) (.nil)
theorem c_law (K : PySem.W.Frag) (A : Ad) : compSs 40 ⟨N_law, defScope st_law, fun _ => true, tb_law K A⟩ (defBody st_law) = some (b_law K A) := by kernel_rfl
end L34

set_option maxRecDepth 100000
set_option maxHeartbeats 1000000
namespace L34
open PySem L2 CW
variable {K : PySem.W.Frag} {A : Ad} {W : WX}
theorem len_ok {l : List Nat} (h : l.length ≤ 1000) : (T l).length ≤ sizeLine := Nat.le_trans (show l.length ≤ 1000 from h) (by decide)
theorem rd_begin_alike (vs : List V) (H : Hp) (Q : VK) (R : XK) (h : sp_begin_alike K A vs H Q R) : vs.length = 2 ∧ wS K W (b_begin_alike K A) (Dn Q) (start N_begin_alike vs) H := by
  obtain ⟨a, b, rfl, hl, hn, q⟩ := h
  refine ⟨rfl, ?_⟩
  refine ⟨fun m σ H' => ∃ k : Nat, k ≤ (lcp a b).length ∧ m = a.length - k ∧ σ = [some (.str (T a)), some (.str (T b)), some (.int k)] ∧ H' = H, ⟨_, 0, Nat.zero_le _, rfl, rfl, rfl⟩, ?_⟩
  rintro m σ H' ⟨k, hk, rfl, rfl, rfl⟩
  have h1 := lcp_le a b
  refine ⟨len_ok hn, ?_⟩
  show if decide ((k : Int) < (a.length : Int)) = true then _ else _
  by_cases c : k < a.length
  · rw [if_pos (decide_eq_true (by omega))]
    refine ⟨len_ok hn, a[k], atI_nat (xs := a) (List.getElem?_eq_getElem c), ?_⟩
    refine ⟨len_ok (by omega), b[k]'(by omega), atI_nat (xs := b) (List.getElem?_eq_getElem (by omega)), rfl, ?_⟩
    have key : (a[k] = b[k]'(by omega)) ↔ k < (lcp a b).length := by
      have t1 := take_lcp a b (k + 1) (by omega) (by omega)
      have t0 := (take_lcp a b k (by omega) (by omega)).mpr hk
      rw [List.take_succ, List.take_succ, t0, List.getElem?_eq_getElem c, List.getElem?_eq_getElem (show k < b.length by omega)] at t1
      simp only [Option.toList, List.append_cancel_left_eq, List.cons.injEq, and_true] at t1
      omega
    show if decide (V.str ⟨#[a[k]]⟩ = V.str ⟨#[b[k]'(by omega)]⟩) = true then _ else _
    by_cases e : a[k] = b[k]'(by omega)
    · rw [if_pos (decide_eq_true (by rw [e]))]
      exact ⟨_, fun σ' H' z => z, a.length - (k + 1), by omega, k + 1, key.mp e, rfl, rfl, rfl⟩
    · rw [if_neg (by simpa using e)]
      have : k = (lcp a b).length := by have := fun z => e (key.mpr z); omega
      rw [this]
      exact q
  · rw [if_neg (by simpa using c)]
    have : k = (lcp a b).length := by omega
    show Q (.int (k : Int)) _
    rw [this]
    exact q
end L34

set_option maxRecDepth 100000
set_option maxHeartbeats 1000000
namespace L34
open PySem L2 CW
variable {K : PySem.W.Frag} {A : Ad} {W : WX}
theorem rd_common (vs : List V) (H : Hp) (Q : VK) (R : XK) (h : sp_common K A vs H Q R) : vs.length = 2 ∧ wS K W (b_common K A) (Dn Q) (start N_common vs) H := by
  obtain ⟨a, b, rfl, ba, bb, ha, hb, q⟩ := h
  refine ⟨rfl, by show 2 ≤ sizeLine; decide, fun p hp => Or.inr ⟨⟨_, .inl (.inl upd_same)⟩, ?_⟩⟩
  refine for_it (walk_tup (xs := [.str (T a), .str (T b)])) (fun _ σ H' => ∃ x, σ = [some (.str (T a)), some (.str (T b)), x, none] ∧ H' = upd H p (.tup [.str (T a), .str (T b)])) ⟨_, rfl, rfl⟩ ?_ ?_ ?_
  · rintro i σ H' _ ⟨x, rfl, rfl⟩
    exact .inl (.inl upd_same)
  · rintro i x σ H' H'' hi ⟨y, rfl, rfl⟩ ⟨rfl, ex⟩
    have hx : x = .str (T a) ∨ x = .str (T b) := by
      have := List.mem_of_getElem? ex
      simpa using this
    rcases hx with rfl | rfl
    · refine ⟨_, rfl, ha, ?_⟩
      show if (!(a.all isBit)) = true then _ else _
      rw [ba.all]
      exact ⟨_, rfl, rfl⟩
    · refine ⟨_, rfl, hb, ?_⟩
      show if (!(b.all isBit)) = true then _ else _
      rw [bb.all]
      exact ⟨_, rfl, rfl⟩
  · rintro σ H' ⟨x, rfl, rfl⟩
    have q := q _ (Grow.refl.new (o := .tup [.str (T a), .str (T b)]) hp)
    generalize upd H p (.tup [.str (T a), .str (T b)]) = H0 at q
    refine ⟨fun m σ H' => ∃ k : Nat, k ≤ (lcp a b).length ∧ m = a.length - k ∧ σ = [some (.str (T a)), some (.str (T b)), x, some (.int k)] ∧ H' = H0, ⟨_, 0, Nat.zero_le _, rfl, rfl, rfl⟩, ?_⟩
    rintro m σ H' ⟨k, hk, rfl, rfl, rfl⟩
    have h1 := lcp_le a b
    refine ⟨len_ok ha, len_ok hb, ?_⟩
    have done : k = (lcp a b).length → wS K W (.cons (.ret (.slc (.v 0) .nil (.cons (.v 3) .nil))) .nil) (Dn Q) [some (.str (T a)), some (.str (T b)), x, some (.int (k : Int))] H' := fun e => by
      refine ⟨len_ok ha, ?_⟩
      show Q (.str (cutS (T a) none (some (k : Int)))) H'
      rw [cut_to, e, ← lcp_take]
      exact q
    show if decide ((k : Int) < (if (b.length : Int) < (a.length : Int) then (b.length : Int) else (a.length : Int))) = true then _ else _
    by_cases c : k < a.length ∧ k < b.length
    · rw [if_pos (decide_eq_true (by split <;> omega))]
      refine ⟨len_ok ha, a[k]'c.1, atI_nat (xs := a) (List.getElem?_eq_getElem c.1), ?_⟩
      refine ⟨len_ok hb, b[k]'c.2, atI_nat (xs := b) (List.getElem?_eq_getElem c.2), rfl, ?_⟩
      have key : (a[k]'c.1 = b[k]'c.2) ↔ k < (lcp a b).length := by
        have t1 := take_lcp a b (k + 1) (by omega) (by omega)
        have t0 := (take_lcp a b k (by omega) (by omega)).mpr hk
        rw [List.take_succ, List.take_succ, t0, List.getElem?_eq_getElem c.1, List.getElem?_eq_getElem c.2] at t1
        simp only [Option.toList, List.append_cancel_left_eq, List.cons.injEq, and_true] at t1
        omega
      show if decide (V.str ⟨#[a[k]'c.1]⟩ = V.str ⟨#[b[k]'c.2]⟩) = true then _ else _
      by_cases e : a[k]'c.1 = b[k]'c.2
      · rw [if_pos (decide_eq_true (by rw [e]))]
        exact ⟨_, fun σ' H' z => z, a.length - (k + 1), by omega, k + 1, key.mp e, rfl, rfl, rfl⟩
      · rw [if_neg (by simpa using e)]
        exact done (by have := fun z => e (key.mpr z); omega)
    · rw [if_neg (fun z => c (by have := of_decide_eq_true z; split at this <;> omega))]
      exact done (by omega)
theorem dp_pair {H : Hp} {D p : Addr} {o : HO} {a b : Str} (hp : H p = none) (hD : H D = some o) : Dp K (dropA (upd H p (.tup [.str a, .str b])) D) (.ref p) (.tuple [.str a, .str b]) :=
  .tup (.inl (.inl (by rw [dropA_ne (fun e => by rw [e, hD] at hp; cases hp)]; exact upd_same))) (.cons (.str _) (.cons (.str _) .nil))
theorem range_map {f : Nat → PyData} (i : Nat) : (List.range (i + 1)).map f = (List.range i).map f ++ [f i] := by
  rw [List.range_succ, List.map_append]; rfl
/-- the row of pairs without a test -/
theorem two_le : ([V.non, V.non] : List V).length ≤ sizeLine := by decide
theorem rd_borders_of (vs : List V) (H : Hp) (Q : VK) (R : XK) (h : sp_borders_of K A vs H Q R) : vs.length = 2 ∧ wS K W (b_borders_of K A) (Dn Q) (start N_borders_of vs) H := by
  rcases h with ⟨e, rfl, he, q⟩ | ⟨b, e, rfl, hl, hb, q⟩
  · refine ⟨rfl, ?_⟩
    refine ⟨len_ok he, _, rfl, by omega, by show ((T e).length : Int) + 1 < 2 ^ 62; rw [T_len]; omega, fun D hD => ?_⟩
    have hn : (((T e).length : Int) + 1).toNat = e.length + 1 := by rw [T_len]; omega
    rw [hn]
    refine lc_grow (K := K) (walk_range (lo := 0) (n := e.length + 1)) (σ := [some .non, some (.str (T e)), none, none, none]) (fun i => (List.range i).map fun k => dn (e.take k)) hD (fun _ _ => trivial) rfl (fun i hi => ?_) ?_ (fun H' n => q _ _ n)
    · have hz : (sizeLine : Nat) = 16777216 := sizeLine_eq
      rw [List.length_map, List.length_range]; omega
    · rintro i x H2 H2' acc P hi g2 hacc ⟨rfl, rfl⟩ put skip
      refine ⟨rfl, len_ok he, two_le, fun p hp => put _ _ (dn (e.take i)) (keepA hacc hp) (Grow.drops (Grow.refl.new hp)) (range_map i) ?_⟩
      have ec : cutS (T e) none (some (0 + (i : Int))) = T (e.take i) := by rw [Int.zero_add]; exact cut_to e i
      show Dp K (dropA (upd _ p (.tup [.str (cutS (T e) none (some (0 + (i : Int)))), .str "down"])) D) _ _
      rw [ec]
      exact dp_pair hp hacc
  · refine ⟨rfl, ?_⟩
    refine ⟨b, e, rfl, hl, hb, ?_⟩
    refine ⟨len_ok hb, _, _, _, b.length - (lcp b e).length, rfl, ?_, fun D hD => ?_⟩
    · have := lcp_le b e
      have z := RgC.neg (i := (b.length : Int)) (j := ((lcp b e).length : Nat)) (by omega) (by omega) (by omega) (by omega)
      have e1 : ((b.length : Int) - ((lcp b e).length : Nat)).toNat = b.length - (lcp b e).length := by omega
      rw [e1] at z
      exact z
    have h1 := lcp_le b e
    refine lc_grow (K := K) (walk_rangeC (lo := (b.length : Int)) (c := -1) (n := b.length - (lcp b e).length)) (σ := [some (.str (T b)), some (.str (T e)), some (.int ((lcp b e).length : Nat)), none, none]) (fun i => (List.range i).map fun i => ups1 (b.take (b.length - i))) hD (fun _ _ => trivial) rfl (fun i hi => ?_) ?_ (fun H' n => ?_)
    · have hz : (sizeLine : Nat) = 16777216 := sizeLine_eq
      rw [List.length_map, List.length_range]; omega
    · rintro i x H2 H2' acc P hi g2 hacc ⟨rfl, rfl⟩ put skip
      refine ⟨rfl, len_ok hb, two_le, fun p hp => put _ _ (ups1 (b.take (b.length - i))) (keepA hacc hp) (Grow.drops (Grow.refl.new hp)) (range_map i) ?_⟩
      have ei : (b.length : Int) + ((i : Nat) : Int) * -1 = ((b.length - i : Nat) : Int) := by omega
      have ec : cutS (T b) none (some ((b.length : Int) + ((i : Nat) : Int) * -1)) = T (b.take (b.length - i)) := by rw [ei]; exact cut_to b _
      show Dp K (dropA (upd _ p (.tup [.str (cutS (T b) none (some ((b.length : Int) + ((i : Nat) : Int) * -1))), .str "up"])) D) _ _
      rw [ec]
      exact dp_pair hp hacc
    · refine ⟨len_ok (by omega), _, _, rfl, ⟨by omega, by omega, by omega, by show ((T e).length : Int) + 1 < 2 ^ 62; rw [T_len]; omega⟩, fun D2 hD2 => ?_⟩
      have hn : (((T e).length : Int) + 1 - (((lcp b e).length : Nat) + 1)).toNat = e.length - (lcp b e).length := by rw [T_len]; omega
      rw [hn]
      refine lc_grow (K := K) (walk_range (lo := (((lcp b e).length : Nat) : Int) + 1) (n := e.length - (lcp b e).length)) (σ := [some (.str (T b)), some (.str (T e)), some (.int ((lcp b e).length : Nat)), some (.ref D), none]) (fun i => (List.range i).map fun i => dn (e.take ((lcp b e).length + 1 + i))) hD2 (fun _ _ => trivial) rfl (fun i hi => ?_) ?_ (fun H2 n2 => ?_)
      · have hz : (sizeLine : Nat) = 16777216 := sizeLine_eq
        rw [List.length_map, List.length_range]; omega
      · rintro i x H2 H2' acc P hi g2 hacc ⟨rfl, rfl⟩ put skip
        refine ⟨rfl, len_ok (by omega), two_le, fun p hp => put _ _ (dn (e.take ((lcp b e).length + 1 + i))) (keepA hacc hp) (Grow.drops (Grow.refl.new hp)) (range_map i) ?_⟩
        have ei : (((lcp b e).length : Nat) : Int) + 1 + (i : Int) = (((lcp b e).length + 1 + i : Nat) : Int) := by omega
        have ec : cutS (T e) none (some ((((lcp b e).length : Nat) : Int) + 1 + (i : Int))) = T (e.take ((lcp b e).length + 1 + i)) := by rw [ei]; exact cut_to e _
        show Dp K (dropA (upd _ p (.tup [.str (cutS (T e) none (some ((((lcp b e).length : Nat) : Int) + 1 + (i : Int)))), .str "down"])) D2) _ _
        rw [ec]
        exact dp_pair hp hacc
      · have nn := n.more n2.grows
        obtain ⟨vs1, v1, v2⟩ := nn.here
        obtain ⟨vs2, w1, w2⟩ := n2.here
        refine Or.inl ⟨D, D2, vs1, vs2, rfl, rfl, v1, w1, ?_, fun r hr => q r _ ⟨?_, ⟨_, upd_same, ?_⟩, ?_⟩⟩
        · have hz : (sizeLine : Nat) = 16777216 := sizeLine_eq
          rw [dpAll_len v2, dpAll_len w2, List.length_map, List.length_range, List.length_map, List.length_range]; omega
        · cases z : H r with
          | none => rfl
          | some o => rw [nn.grows r o z] at hr; cases hr
        · rw [drop_upd hr]
          exact dpAll_app (Grow.drop.dpAll _ _ v2) (Grow.drop.dpAll _ _ w2)
        · rw [drop_upd hr]; exact nn.grows
end L34

set_option maxRecDepth 100000
set_option maxHeartbeats 1000000
namespace L34
open PySem L2 CW
variable {K : PySem.W.Frag} {A : Ad} {W : WX}
theorem ne_cut {b e : List Nat} {k : Nat} (h1 : k ≤ b.length) (h2 : k ≤ e.length) : (!decide (V.str (T (b.take k)) = V.str (T (e.take k)))) = decide ((lcp b e).length < k) := by
  have z := take_lcp b e k h1 h2
  rw [Bool.eq_iff_iff]
  simp only [Bool.not_eq_true', decide_eq_false_iff_not, decide_eq_true_eq, V.str.injEq]
  constructor
  · intro h
    by_cases c : k ≤ (lcp b e).length
    · exact absurd (by rw [z.mpr c]) h
    · omega
  · intro h c
    have := z.mp (T_inj c)
    omega
theorem rd_law_path (vs : List V) (H : Hp) (Q : VK) (R : XK) (h : sp__law_path K A vs H Q R) : vs.length = 2 ∧ wS K W (b__law_path K A) (Dn Q) (start N__law_path vs) H := by
  rcases h with ⟨e, rfl, he, q⟩ | ⟨b, e, rfl, hl, hb, q⟩
  · refine ⟨rfl, ?_⟩
    refine ⟨len_ok he, _, rfl, by omega, by show ((T e).length : Int) + 1 < 2 ^ 62; rw [T_len]; omega, fun D hD => ?_⟩
    have hn : (((T e).length : Int) + 1).toNat = e.length + 1 := by rw [T_len]; omega
    rw [hn]
    refine lc_grow (K := K) (walk_range (lo := 0) (n := e.length + 1)) (σ := [some .non, some (.str (T e)), none, none]) (fun i => (List.range i).map fun k => dn (e.take k)) hD (fun _ _ => trivial) rfl (fun i hi => ?_) ?_ (fun H' n => q _ _ n)
    · have hz : (sizeLine : Nat) = 16777216 := sizeLine_eq
      rw [List.length_map, List.length_range]; omega
    · rintro i x H2 H2' acc P hi g2 hacc ⟨rfl, rfl⟩ put skip
      refine ⟨rfl, len_ok he, two_le, fun p hp => put _ _ (dn (e.take i)) (keepA hacc hp) (Grow.drops (Grow.refl.new hp)) (range_map i) ?_⟩
      have ec : cutS (T e) none (some (0 + (i : Int))) = T (e.take i) := by rw [Int.zero_add]; exact cut_to e i
      show Dp K (dropA (upd _ p (.tup [.str (cutS (T e) none (some (0 + (i : Int)))), .str "down"])) D) _ _
      rw [ec]
      exact dp_pair hp hacc
  · have h1 := lcp_le b e
    have hz : (sizeLine : Nat) = 16777216 := sizeLine_eq
    refine ⟨rfl, ?_⟩
    refine ⟨len_ok hb, _, _, _, b.length, rfl, ?_, fun D hD => ?_⟩
    · have z := RgC.neg (i := (b.length : Int)) (j := 0) (by omega) (by omega) (by omega) (by omega)
      have e1 : ((b.length : Int) - 0).toNat = b.length := by omega
      rw [e1] at z
      exact z
    refine lc_grow (K := K) (walk_rangeC (lo := (b.length : Int)) (c := -1) (n := b.length)) (σ := [some (.str (T b)), some (.str (T e)), none, none]) (fun i => (List.range (min i (b.length - (lcp b e).length))).map fun i => ups1 (b.take (b.length - i))) hD (fun _ _ => trivial) (by simp) (fun i hi => ?_) ?_ (fun H' n => ?_)
    · rw [List.length_map, List.length_range]; omega
    · rintro i x H2 H2' acc P hi g2 hacc ⟨rfl, rfl⟩ put skip
      have ei : (b.length : Int) + ((i : Nat) : Int) * -1 = ((b.length - i : Nat) : Int) := by omega
      have eb : cutS (T b) none (some ((b.length : Int) + ((i : Nat) : Int) * -1)) = T (b.take (b.length - i)) := by rw [ei]; exact cut_to b _
      have ee : cutS (T e) none (some ((b.length : Int) + ((i : Nat) : Int) * -1)) = T (e.take (b.length - i)) := by rw [ei]; exact cut_to e _
      refine ⟨rfl, len_ok hb, len_ok (by omega), rfl, ?_⟩
      show if (!decide (V.str (cutS (T b) none (some ((b.length : Int) + ((i : Nat) : Int) * -1))) = V.str (cutS (T e) none (some ((b.length : Int) + ((i : Nat) : Int) * -1))))) = true then _ else _
      rw [eb, ee, ne_cut (by omega) (by omega)]
      by_cases c : (lcp b e).length < b.length - i
      · rw [if_pos (decide_eq_true c)]
        have em : min (i + 1) (b.length - (lcp b e).length) = min i (b.length - (lcp b e).length) + 1 := by omega
        have em2 : min i (b.length - (lcp b e).length) = i := by omega
        refine ⟨len_ok hb, two_le, fun p hp => put _ _ (ups1 (b.take (b.length - i))) (keepA hacc hp) (Grow.drops (Grow.refl.new hp)) ?_ ?_⟩
        · rw [em, range_map, em2]
        · show Dp K (dropA (upd _ p (.tup [.str (cutS (T b) none (some ((b.length : Int) + ((i : Nat) : Int) * -1))), .str "up"])) D) _ _
          rw [eb]
          exact dp_pair hp hacc
      · rw [if_neg (by simpa using c)]
        refine skip _ hacc .refl ?_
        have em : min (i + 1) (b.length - (lcp b e).length) = min i (b.length - (lcp b e).length) := by omega
        rw [em]
    · have en : min b.length (b.length - (lcp b e).length) = b.length - (lcp b e).length := by omega
      rw [en] at n
      refine ⟨len_ok (by omega), _, _, rfl, ⟨by omega, by omega, by omega, by show ((T e).length : Int) + 1 < 2 ^ 62; rw [T_len]; omega⟩, fun D2 hD2 => ?_⟩
      have hn : (((T e).length : Int) + 1 - 1).toNat = e.length := by rw [T_len]; omega
      rw [hn]
      refine lc_grow (K := K) (walk_range (lo := 1) (n := e.length)) (σ := [some (.str (T b)), some (.str (T e)), some (.ref D), none]) (fun i => (List.range (i - (lcp b e).length)).map fun i => dn (e.take ((lcp b e).length + 1 + i))) hD2 (fun _ _ => trivial) (by simp) (fun i hi => ?_) ?_ (fun H2 n2 => ?_)
      · rw [List.length_map, List.length_range]; omega
      · rintro i x H2 H2' acc P hi g2 hacc ⟨rfl, rfl⟩ put skip
        have ei : (1 : Int) + (i : Int) = ((1 + i : Nat) : Int) := by omega
        have eb : cutS (T b) none (some ((1 : Int) + (i : Int))) = T (b.take (1 + i)) := by rw [ei]; exact cut_to b _
        have ee : cutS (T e) none (some ((1 : Int) + (i : Int))) = T (e.take (1 + i)) := by rw [ei]; exact cut_to e _
        refine ⟨rfl, len_ok hb, len_ok (by omega), rfl, ?_⟩
        show if (!decide (V.str (cutS (T b) none (some ((1 : Int) + (i : Int)))) = V.str (cutS (T e) none (some ((1 : Int) + (i : Int)))))) = true then _ else _
        rw [eb, ee, ne_cut (by omega) (by omega)]
        by_cases c : (lcp b e).length < 1 + i
        · rw [if_pos (decide_eq_true c)]
          have em : i + 1 - (lcp b e).length = i - (lcp b e).length + 1 := by omega
          have em2 : (lcp b e).length + 1 + (i - (lcp b e).length) = 1 + i := by omega
          refine ⟨len_ok (by omega), two_le, fun p hp => put _ _ (dn (e.take (1 + i))) (keepA hacc hp) (Grow.drops (Grow.refl.new hp)) ?_ ?_⟩
          · rw [em, range_map, em2]
          · show Dp K (dropA (upd _ p (.tup [.str (cutS (T e) none (some ((1 : Int) + (i : Int)))), .str "down"])) D2) _ _
            rw [ee]
            exact dp_pair hp hacc
        · rw [if_neg (by simpa using c)]
          refine skip _ hacc .refl ?_
          have em : i + 1 - (lcp b e).length = i - (lcp b e).length := by omega
          rw [em]
      · have nn := n.more n2.grows
        obtain ⟨vs1, v1, v2⟩ := nn.here
        obtain ⟨vs2, w1, w2⟩ := n2.here
        refine Or.inl ⟨D, D2, vs1, vs2, rfl, rfl, v1, w1, ?_, fun r hr => q r _ ⟨?_, ⟨_, upd_same, ?_⟩, ?_⟩⟩
        · rw [dpAll_len v2, dpAll_len w2, List.length_map, List.length_range, List.length_map, List.length_range]; omega
        · cases z : H r with
          | none => rfl
          | some o => rw [nn.grows r o z] at hr; cases hr
        · rw [drop_upd hr]
          exact dpAll_app (Grow.drop.dpAll _ _ v2) (Grow.drop.dpAll _ _ w2)
        · rw [drop_upd hr]; exact nn.grows
theorem rd_path (vs : List V) (H : Hp) (Q : VK) (R : XK) (h : sp_path K A vs H Q R) : vs.length = 3 ∧ wS K W (b_path K A) (Dn Q) (start N_path vs) H := by
  obtain ⟨w, e, w1, w2, be, le, h⟩ := h
  rcases h with ⟨rfl, q⟩ | ⟨b, rfl, bb, lb, q⟩
  · refine ⟨rfl, w, rfl, w1, w2, ?_⟩
    exact ⟨w, e, rfl, w1, w2, be, le, .inl ⟨e, rfl, by omega, q⟩⟩
  · refine ⟨rfl, w, rfl, w1, w2, ?_⟩
    exact ⟨w, b, rfl, w1, w2, bb, lb, w, e, rfl, w1, w2, be, le, .inr ⟨b, e, rfl, by omega, by omega, q⟩⟩
theorem rd_law_spot (vs : List V) (H : Hp) (Q : VK) (R : XK) (h : sp__law_spot K A vs H Q R) : vs.length = 2 ∧ wS K W (b__law_spot K A) (Dn Q) (start N__law_spot vs) H := by
  obtain ⟨p, w, rfl, hp, h0, h1, q⟩ := h
  refine ⟨rfl, ⟨_, rfl⟩, _, rfl, by omega, by omega, ?_⟩
  refine join_turns (p := p) (P := fun c => isBit c = true) hp (by omega) (fun t H2 Q' hp2 _ q' => ?_) (fun cs H3 hl hc ch3 => q cs H3 (by omega) hc ch3)
  refine ⟨p, 2, rfl, hp2, by omega, by omega, fun d H3 d0 d1 ch3 => ?_⟩
  obtain ⟨c, hv, hm⟩ := atI_of (xs := ("01" : Str).cps.toList) d0 (by have e : ("01" : Str).cps.toList.length = 2 := by decide +kernel
                                                                      rw [e]; exact d1)
  refine ⟨by decide, c, hv, q' c H3 ?_ ch3⟩
  rw [← bitIn2]; exact decide_eq_true hm
end L34

set_option maxRecDepth 100000
set_option maxHeartbeats 1000000
namespace L34
open PySem L2 CW
variable {K : PySem.W.Frag} {A : Ad} {W : WX}
theorem T_app (a b : List Nat) : T a ++ T b = T (a ++ b) := by
  show (⟨a.toArray ++ b.toArray⟩ : Str) = ⟨(a ++ b).toArray⟩
  simp
theorem rd_law_near (vs : List V) (H : Hp) (Q : VK) (R : XK) (h : sp__law_near K A vs H Q R) : vs.length = 2 ∧ wS K W (b__law_near K A) (Dn Q) (start N__law_near vs) H := by
  obtain ⟨p, l, rfl, hp, bl, hl, q⟩ := h
  refine ⟨rfl, len_ok (by omega), p, _, rfl, hp, by omega, by show ((T l).length : Int) + 1 < 1000000; rw [T_len]; omega, fun d H1 d0 d1 ch1 => ?_⟩
  have d1 : d < (l.length : Int) + 1 := d1
  refine ⟨len_ok (by omega), rfl, ?_⟩
  show if decide (V.int d = V.int (l.length : Int)) = true then _ else _
  by_cases c : d = (l.length : Int)
  · rw [if_pos (decide_eq_true (by rw [c]))]
    exact q l H1 rfl bl ch1
  · rw [if_neg (by simpa using c)]
    obtain ⟨k, rfl⟩ := Int.eq_ofNat_of_zero_le d0
    have hk : k < l.length := by omega
    refine ⟨len_ok (by omega), fun pd hpd => ⟨upd_same, [(.inr "0", .str "1"), (.inr "1", .str "0")], rfl, by decide, ?_⟩⟩
    rw [upd_upd]
    have ch2 := ch1.new (o := .dK (mergeK [] [(.inr "0", .str "1"), (.inr "1", .str "0")])) hpd
    refine ⟨len_ok (by omega), l[k], atI_nat (xs := l) (List.getElem?_eq_getElem hk), ?_⟩
    have hb := bl l[k] (List.getElem_mem hk)
    obtain ⟨f, hf, hv⟩ : ∃ f : Nat, isBit f = true ∧ some (V.str (T [f])) = valV (mergeK [] [(.inr "0", V.str "1"), (.inr "1", V.str "0")]) (.inr (T [l[k]])) := by
      unfold isBit at hb
      simp only [Bool.or_eq_true, decide_eq_true_eq] at hb
      rcases hb with e | e
      · rw [e]; exact ⟨49, rfl, by decide +kernel⟩
      · rw [e]; exact ⟨48, rfl, by decide +kernel⟩
    refine Or.inr (Or.inr ⟨.str (T [f]), .inl ⟨_, .inr (T [l[k]]), .inl upd_same, rfl, hv⟩, ?_⟩)
    have ec : cutS (T l) none (some ((k : Nat) : Int)) = T (l.take k) := cut_to l k
    have hz : (sizeLine : Nat) = 16777216 := sizeLine_eq
    show (cutS (T l) none (some ((k : Nat) : Int))).length + (T [f]).length ≤ sizeLine ∧ _
    have e1 : (T (l.take k)).length = (l.take k).length := rfl
    have e2 : (T [f]).length = 1 := rfl
    refine ⟨by rw [ec, e1, e2, List.length_take]; omega, len_ok (by omega), p, (l.length : Int) - k - 1, rfl, ch2.pot, by omega, by omega, fun t H3 lt bt ch3 => ?_⟩
    show (cutS (T l) none (some ((k : Nat) : Int)) ++ T [f]).length + (T t).length ≤ sizeLine ∧ Q (.str (cutS (T l) none (some ((k : Nat) : Int)) ++ T [f] ++ T t)) H3
    rw [ec, T_app, T_app]
    refine ⟨?_, q _ _ ?_ ?_ (ch2.trans ch3)⟩
    · show (l.take k ++ [f]).length + t.length ≤ _
      simp; omega
    · simp; omega
    · exact ((bl.take k).app (fun c hc => by rw [List.mem_singleton.mp hc]; exact hf)).app bt
/-! the rows as pairs -/
def wd : Bool → Str
  | true => "up"
  | false => "down"
def pd (x : List Nat × Bool) : PyData := .tuple [.str (T x.1), .str (wd x.2)]
def bps (b e : List Nat) : List (List Nat × Bool) := ((List.range (b.length - (lcp b e).length)).map fun i => (b.take (b.length - i), true)) ++ (List.range (e.length - (lcp b e).length)).map fun i => (e.take ((lcp b e).length + 1 + i), false)
theorem bps_pd (b e : List Nat) : (bps b e).map pd = borders b e := by
  unfold bps borders ups dns
  rw [List.map_append, List.map_map, List.map_map]
  rfl
theorem bps_len {b e : List Nat} (h : b.length = e.length) : (bps b e).length = 2 * (b.length - (lcp b e).length) := by
  unfold bps
  simp only [List.length_append, List.length_map, List.length_range]
  omega
def flip (x : List Nat × Bool) : List Nat × Bool := (x.1, !x.2)
theorem range_rev {α : Type} (n : Nat) (f : Nat → α) : ((List.range n).map f).reverse = (List.range n).map fun i => f (n - 1 - i) := by
  apply List.ext_getElem
  · simp
  · intro i h1 h2
    simp at h1 h2 ⊢
theorem bps_rev {b e : List Nat} (h : b.length = e.length) : bps e b = (bps b e).reverse.map flip := by
  have hc := lcp_comm b e
  have h1 := lcp_le b e
  unfold bps
  rw [List.reverse_append, List.map_append, range_rev, range_rev, List.map_map, List.map_map, ← hc, ← h]
  congr 1
  · apply List.map_congr_left
    intro i hi
    have := List.mem_range.mp hi
    show (e.take (b.length - i), true) = (e.take ((lcp b e).length + 1 + (b.length - (lcp b e).length - 1 - i)), !false)
    congr 2
    omega
  · apply List.map_congr_left
    intro i hi
    have := List.mem_range.mp hi
    show (b.take ((lcp b e).length + 1 + i), false) = (b.take (b.length - (b.length - (lcp b e).length - 1 - i)), !true)
    congr 2
    omega
theorem bps_mem {b e : List Nat} (h : b.length = e.length) (bb : Bt b) (be : Bt e) : ∀ x ∈ bps b e, Bt x.1 ∧ x.1.length ≤ b.length := by
  intro x hx
  unfold bps at hx
  rcases List.mem_append.mp hx with z | z
  · obtain ⟨i, _, rfl⟩ := List.mem_map.mp z
    exact ⟨bb.take _, by show (b.take _).length ≤ _; rw [List.length_take]; omega⟩
  · obtain ⟨i, _, rfl⟩ := List.mem_map.mp z
    exact ⟨be.take _, by show (e.take _).length ≤ _; rw [List.length_take]; omega⟩
theorem bps_ways {b e : List Nat} (h : b.length = e.length) : (bps b e).map (fun x => wd x.2) = List.replicate (b.length - (lcp b e).length) ("up" : Str) ++ List.replicate (b.length - (lcp b e).length) ("down" : Str) := by
  unfold bps
  rw [List.map_append, List.map_map, List.map_map, ← h]
  congr 1
  · rw [List.eq_replicate_iff]
    refine ⟨by simp, fun x hx => ?_⟩
    obtain ⟨i, _, rfl⟩ := List.mem_map.mp hx
    rfl
  · rw [List.eq_replicate_iff]
    refine ⟨by simp, fun x hx => ?_⟩
    obtain ⟨i, _, rfl⟩ := List.mem_map.mp hx
    rfl
theorem wd_fit (u : Bool) : Fit 4 0 (.str (wd u)) := by
  cases u <;> exact Fit.str (by decide) (by decide +kernel)
theorem pd_fit {x : List Nat × Bool} (h : Bt x.1) (hl : x.1.length ≤ 100) : Fit 106 1 (pd x) :=
  Fit.tup (FitA.cons (Fit.str (w := 100) (show (T x.1).length ≤ 100 from hl) h.ascii) (FitA.cons (wd_fit x.2) FitA.nil))
theorem rows_fit {xs : List (List Nat × Bool)} (h : ∀ x ∈ xs, Bt x.1 ∧ x.1.length ≤ 100) (hl : xs.length ≤ 202) : Fit 21614 2 (.list (xs.map pd)) := by
  have z := FitA.all (w := 106) (k := 1) (ds := xs.map pd) (fun d hd => by
    obtain ⟨x, hx, rfl⟩ := List.mem_map.mp hd
    exact pd_fit (h x hx).1 (h x hx).2)
  exact (Fit.list z).up (by rw [List.length_map]; omega) (Nat.le_refl _)
theorem Fit.raw {w k : Nat} {d : PyData} (f : Fit w k d) (hw : w ≤ 1048576) (hk : k ≤ 60) : d.showable = true ∧ d.depth ≤ 60 ∧ d.shown.length ≤ sizeLine := by
  have := f.dep
  have := f.wei
  have hz : (sizeLine : Nat) = 16777216 := sizeLine_eq
  have z : d.shown.length ≤ 15728653 := PyProof.Rows.shown_le13 (by
    unfold PyData.layable0
    rw [f.lay, decide_eq_true (by omega), decide_eq_true (by omega)]; rfl) f.ish
  exact ⟨f.sho, by omega, by omega⟩
theorem two_fit {d : PyData} {w k : Nat} (f : Fit w k d) : Fit (w + 1 + (w + 1 + 0)) (k + 1) (.list [d, d]) := Fit.list (FitA.cons f (FitA.cons f FitA.nil))
theorem pd_inv {H : Hp} {v : V} {x : List Nat × Bool} (h : Dp K H v (pd x)) : ∃ q, v = .ref q ∧ SqT K H q [.str (T x.1), .str (wd x.2)] := by
  cases h with
  | tup hs ha =>
    cases ha with
    | cons h1 h2 =>
      cases h2 with
      | cons h3 h4 =>
        cases h1; cases h3; cases h4
        exact ⟨_, rfl, hs⟩
end L34

set_option maxRecDepth 100000
set_option maxHeartbeats 1000000
namespace L34
open PySem L2 CW
variable {K : PySem.W.Frag} {A : Ad} {W : WX}
theorem set_map {α : Type} (n : Nat) (xs : α) : (List.replicate n [xs]).flatten = List.replicate n xs := by
  induction n with
  | zero => rfl
  | succ n ih => rw [List.replicate_succ, List.flatten_cons, ih, List.replicate_succ]; rfl
theorem dp_strs {H : Hp} : ∀ zs : List Str, DpAll K H (zs.map V.str) (zs.map PyData.str)
  | [] => .nil
  | z :: zs => .cons (.str z) (dp_strs zs)
theorem strs_fit {zs : List Str} (h : ∀ z ∈ zs, Fit 4 0 (.str z)) : Fit (5 * zs.length) 1 (.list (zs.map PyData.str)) := by
  have z := FitA.all (w := 4) (k := 0) (ds := zs.map PyData.str) (fun d hd => by
    obtain ⟨x, hx, rfl⟩ := List.mem_map.mp hd
    exact h x hx)
  rw [List.length_map] at z
  exact Fit.list z
theorem eqv_self {w k : Nat} {d : PyData} (f : Fit w k d) : PyData.eqv d d = true := PySem.SeqAt.eqv_refl d f.lay

theorem row_at {a b : List Nat} {vs1 : List V} {H : Hp} {i : Nat} {x : V} (v2 : DpAll K H vs1 ((bps a b).map pd)) (hx : vs1[i]? = some x) : ∃ pr q, (bps a b)[i]? = some pr ∧ x = .ref q ∧ SqT K H q [.str (T pr.1), .str (wd pr.2)] := by
  obtain ⟨d, hd, dpx⟩ := dpAll_get v2 hx
  rw [List.getElem?_map] at hd
  cases e : (bps a b)[i]? with
  | none => rw [e] at hd; cases hd
  | some pr =>
    rw [e] at hd
    obtain rfl := Option.some.inj hd
    obtain ⟨q, rfl, hq⟩ := pd_inv dpx
    exact ⟨pr, q, rfl, rfl, hq⟩
theorem one_le : ([V.non] : List V).length ≤ sizeLine := by decide
theorem rd_law_pair_right (vs : List V) (H : Hp) (Q : VK) (R : XK) (h : sp__law_pair_right K A vs H Q R) : vs.length = 3 ∧ wS K W (b__law_pair_right K A) (Dn Q) (start N__law_pair_right vs) H := by
  obtain ⟨w, a, b, rfl, w1, w2, ba, bb, la, lb, q⟩ := h
  have hl : a.length = b.length := by omega
  have h100 : a.length ≤ 100 := by omega
  have hc := lcp_le a b
  have hz : (sizeLine : Nat) = 16777216 := sizeLine_eq
  have hm := bps_mem hl ba bb
  have hn := bps_len hl
  have fit : Fit 21614 2 (.list ((bps a b).map pd)) := rows_fit (fun x hx => ⟨(hm x hx).1, by have := (hm x hx).2; omega⟩) (by omega)
  obtain ⟨z1, z2, z3⟩ := Fit.raw (two_fit fit) (by omega) (by omega)
  refine ⟨rfl, Or.inr ⟨a, b, rfl, hl, by omega, fun l0 H0 n0 => ?_⟩⟩
  refine ⟨w, b, w1, w2, bb, lb, .inr ⟨a, rfl, ba, la, fun l1 H1 n1 => ?_⟩⟩
  refine ⟨w, b, w1, w2, bb, lb, .inr ⟨a, rfl, ba, la, fun l2 H2 n2 => ?_⟩⟩
  refine ⟨_, _, rfl, ?_⟩
  rw [← bps_pd] at n0 n1 n2
  refine ⟨two_le, fun q1 m1 => ?_⟩
  have dp1 := (n1.more n2.grows).dp
  have dp0 := ((n0.more n1.grows).more n2.grows).dp
  have g1 : Grow H2 (upd H2 q1 (.lst [.ref l1, .ref l2])) := Grow.refl.new m1
  refine Or.inl ⟨.list [.list ((bps a b).map pd), .list ((bps a b).map pd)], .lst (SqL.of upd_same) (.cons (g1.dp _ _ dp1) (.cons (g1.dp _ _ n2.dp) .nil)), z1, z2, z3, ?_⟩
  refine ⟨two_le, fun q2 m2 => ?_⟩
  have g2 : Grow H2 (upd (upd H2 q1 (.lst [.ref l1, .ref l2])) q2 (.lst [.ref l0, .ref l0])) := g1.new m2
  refine Or.inl ⟨.list [.list ((bps a b).map pd), .list ((bps a b).map pd)], .lst (SqL.of upd_same) (.cons (g2.dp _ _ dp0) (.cons (g2.dp _ _ dp0) .nil)), z1, z2, z3, ⟨rfl, ?_⟩⟩
  show if (!decide (V.str (PyData.list [.list ((bps a b).map pd), .list ((bps a b).map pd)]).shown = V.str (PyData.list [.list ((bps a b).map pd), .list ((bps a b).map pd)]).shown)) = true then _ else _
  rw [decide_eq_true rfl]
  have g12 : Grow H1 (upd (upd H2 q1 (.lst [.ref l1, .ref l2])) q2 (.lst [.ref l0, .ref l0])) := n2.grows.trans g2
  generalize upd (upd H2 q1 (.lst [.ref l1, .ref l2])) q2 (.lst [.ref l0, .ref l0]) = H4 at g12 ⊢
  obtain ⟨vs1, v1, v2⟩ := n1.here
  have lv : vs1.length = (bps a b).length := by rw [dpAll_len v2, List.length_map]
  refine Or.inl ⟨⟨_, SqL.of (g12 _ _ v1)⟩, fun D hD => ?_⟩
  refine lc_it (walk_list (xs := vs1)) (σ := [some (.int w), some (.str (T a)), some (.str (T b)), some (.ref l0), some (.ref l1), some (.ref l2), none, none, none, none]) (fun i H' => H' = upd H4 D (.lst (List.replicate i (.bl true)))) rfl ?_ ?_ ?_
  · rintro i H' _ rfl
    exact SqL.of (keepA (g12 _ _ v1) hD)
  · rintro i x Ha Hb hi rfl ⟨rfl, hx⟩
    obtain ⟨pr, r, hpr, rfl, hr⟩ := row_at v2 hx
    have hmm := hm pr (List.mem_of_getElem? hpr)
    refine ⟨r, _, rfl, (Grow.drop.trans (g12.trans (Grow.refl.new hD))).sqt hr, rfl, _, _, rfl, _, _, rfl, rfl, rfl, ?_⟩
    refine ⟨w, .str (T pr.1), rfl, w1, w2, (by show (T pr.1).length ≤ 1000; rw [T_len]; omega), _, upd_same, (by rw [List.length_replicate]; omega), ?_⟩
    rw [upd_upd, isStretch_T hmm.1 (by omega), List.replicate_succ']
  · rintro H' rfl
    refine ⟨D, _, rfl, upd_same, List.replicate vs1.length true, SqL.of (by rw [upd_same, List.map_replicate]), upd_same, ?_⟩
    have e : (List.replicate vs1.length true).all id = true := by
      rw [List.all_eq_true]; intro b hb; exact (List.eq_of_mem_replicate hb)
    show if (!((List.replicate vs1.length true).all id)) = true then _ else _
    rw [e, drop_upd hD]
    clear e hD D
    refine ⟨a, b, rfl, ba, bb, by omega, by omega, fun Hc gc => ⟨len_ok (by omega), ?_⟩⟩
    have g1c := g12.trans gc
    clear gc g12
    refine Or.inl ⟨vs1, SqL.of (g1c _ _ v1), ⟨.inl ⟨by omega, by omega⟩, ⟨rfl, ?_⟩⟩⟩
    show if (!decide (V.int (vs1.length : Int) = V.int (2 * (w - ((lcp a b).length : Int))))) = true then _ else _
    rw [decide_eq_true (by congr 1; omega)]
    refine Or.inl ⟨⟨_, SqL.of (g1c _ _ v1)⟩, fun D hD => ?_⟩
    refine lc_it (walk_list (xs := vs1)) (σ := [some (.int w), some (.str (T a)), some (.str (T b)), some (.ref l0), some (.ref l1), some (.ref l2), some (.int (w - ((lcp a b).length : Nat))), none, none, none]) (fun i H' => H' = upd Hc D (.lst (((bps a b).take i).map fun x => V.str (wd x.2)))) rfl ?_ ?_ ?_
    · rintro i H' _ rfl
      exact SqL.of (keepA (g1c _ _ v1) hD)
    · rintro i x Ha Hb hi rfl ⟨rfl, hx⟩
      obtain ⟨pr, r, hpr, rfl, hr⟩ := row_at v2 hx
      refine ⟨r, _, rfl, (Grow.drop.trans (g1c.trans (Grow.refl.new hD))).sqt hr, rfl, _, _, rfl, _, _, rfl, rfl, rfl, ?_⟩
      refine ⟨_, upd_same, (by rw [List.length_map, List.length_take]; omega), ?_⟩
      rw [upd_upd, List.take_succ, hpr, List.map_append]; rfl
    rintro H' rfl
    rw [lv, List.take_length]
    have ew : ((bps a b).map fun x => V.str (wd x.2)) = ((bps a b).map fun x => wd x.2).map V.str := by rw [List.map_map]; rfl
    rw [ew, bps_ways hl]
    generalize hk : a.length - (lcp a b).length = k at *
    have gD : Grow Hc (upd Hc D (.lst ((List.replicate k ("up" : Str) ++ List.replicate k ("down" : Str)).map V.str))) := Grow.refl.new hD
    have hDD : upd Hc D (.lst ((List.replicate k ("up" : Str) ++ List.replicate k ("down" : Str)).map V.str)) D = some (.lst ((List.replicate k ("up" : Str) ++ List.replicate k ("down" : Str)).map V.str)) := upd_same
    generalize upd Hc D (.lst ((List.replicate k ("up" : Str) ++ List.replicate k ("down" : Str)).map V.str)) = H5 at gD hDD ⊢
    have hT : (T (lcp a b)).length = (lcp a b).length := rfl
    have hkw : (w - ((T (lcp a b)).length : Int)).toNat = k := by omega
    refine ⟨one_le, fun u1 e1 => ?_⟩
    refine ⟨u1, _, [.str "up"], rfl, rfl, upd_same, by omega, by omega, (by rw [hkw, List.length_singleton]; omega), fun u2 e2 => ?_⟩
    rw [hkw, set_map]
    refine ⟨one_le, fun u3 e3 => ?_⟩
    refine ⟨u3, _, [.str "down"], rfl, rfl, upd_same, by omega, by omega, (by rw [hkw, List.length_singleton]; omega), fun u4 e4 => ?_⟩
    rw [hkw, set_map]
    refine Or.inl ⟨u2, u4, _, _, rfl, rfl, keepA (keepA upd_same e3) e4, upd_same, (by rw [List.length_replicate, List.length_replicate]; omega), fun u5 e5 => ?_⟩
    have g5 := (((((Grow.refl (H := H5)).new (o := .lst [.str "up"]) e1).new (o := .lst (List.replicate k (.str "up"))) e2).new (o := .lst [.str "down"]) e3).new (o := .lst (List.replicate k (.str "down"))) e4).new (o := .lst (List.replicate k (.str "up") ++ List.replicate k (.str "down"))) e5
    have fw : Fit (5 * (List.replicate k ("up" : Str) ++ List.replicate k ("down" : Str)).length) 1 (.list ((List.replicate k ("up" : Str) ++ List.replicate k ("down" : Str)).map PyData.str)) := strs_fit (fun z hz => by
      rcases List.mem_append.mp hz with y | y
      · rw [List.eq_of_mem_replicate y]; exact wd_fit true
      · rw [List.eq_of_mem_replicate y]; exact wd_fit false)
    refine ⟨_, _, .lst (SqL.of (g5 _ _ hDD)) (dp_strs _), .lst (SqL.of upd_same) (?_ : DpAll K _ _ ((List.replicate k ("up" : Str) ++ List.replicate k ("down" : Str)).map PyData.str)), fw.shaped (by decide), fw.shaped (by decide), ?_⟩
    · have := dp_strs (K := K) (H := upd (upd (upd (upd (upd H5 u1 (.lst [.str "up"])) u2 (.lst (List.replicate k (.str "up")))) u3 (.lst [.str "down"])) u4 (.lst (List.replicate k (.str "down")))) u5 (.lst (List.replicate k (.str "up") ++ List.replicate k (.str "down")))) (List.replicate k ("up" : Str) ++ List.replicate k ("down" : Str))
      rw [List.map_append, List.map_replicate, List.map_replicate] at this
      exact this
    show if (!PyData.eqv _ _) = true then _ else _
    rw [eqv_self fw]
    have g6 := g1c.trans (gD.trans g5)
    generalize upd (upd (upd (upd (upd H5 u1 (.lst [.str "up"])) u2 (.lst (List.replicate k (.str "up")))) u3 (.lst [.str "down"])) u4 (.lst (List.replicate k (.str "down")))) u5 (.lst (List.replicate k (.str "up") ++ List.replicate k (.str "down"))) = H6 at g6 ⊢
    clear g5 gD hDD
    -- back
    refine ⟨l1, vs1, rfl, SqL.of (g6 _ _ v1), fun r1 f1 => Or.inl ⟨⟨_, SqL.of upd_same⟩, fun D2 hD2 => ?_⟩⟩
    have g7 : Grow H6 (upd H6 r1 (.lst vs1.reverse)) := Grow.refl.new f1
    have hr1 : upd H6 r1 (.lst vs1.reverse) r1 = some (.lst vs1.reverse) := upd_same
    have g17 := g6.trans g7
    generalize upd H6 r1 (.lst vs1.reverse) = H7 at g7 g17 hr1 hD2 ⊢
    have v2r : DpAll K (dropA H1 l1) vs1.reverse ((bps a b).reverse.map pd) := by
      have := dpAll_rev v2
      rw [← List.map_reverse] at this
      exact this
    refine lc_grow (K := K) (walk_list (xs := vs1.reverse)) (σ := [some (.int w), some (.str (T a)), some (.str (T b)), some (.ref l0), some (.ref l1), some (.ref l2), some (.int (w - ((T (lcp a b)).length : Int))), none, none, none]) (fun i => (((bps a b).reverse.take i).map flip).map pd) hD2 (fun _ g => SqL.of (g _ _ hr1)) (by simp) (fun i hi => ?_) ?_ (fun H8 n8 => ?_)
    · rw [List.length_map, List.length_map, List.length_take, List.length_reverse]; omega
    · rintro i x Ha Hb acc P hi ga hacc ⟨rfl, hx⟩ put skip
      obtain ⟨d, hd, dpx⟩ := dpAll_get v2r hx
      rw [List.getElem?_map] at hd
      obtain ⟨pr, hpr, rfl⟩ : ∃ pr, (bps a b).reverse[i]? = some pr ∧ pd pr = d := by
        cases e : (bps a b).reverse[i]? with
        | none => rw [e] at hd; cases hd
        | some pr => rw [e] at hd; exact ⟨pr, rfl, Option.some.inj hd⟩
      obtain ⟨r, rfl, hr⟩ := pd_inv dpx
      refine ⟨r, _, rfl, (Grow.drop.trans (g17.trans ga)).sqt hr, rfl, _, _, rfl, _, _, rfl, rfl, rfl, ?_⟩
      refine fun pdd hpd => ⟨upd_same, [(.inr "up", .str "down"), (.inr "down", .str "up")], rfl, by decide, ?_⟩
      rw [upd_upd]
      refine Or.inr (Or.inr ⟨.str (wd (!pr.2)), .inl ⟨_, .inr (wd pr.2), .inl upd_same, rfl, ?_⟩, ?_⟩)
      · cases pr.2 <;> decide +kernel
      refine ⟨two_le, fun p hp => put _ _ (pd (flip pr)) (keepA (keepA hacc hpd) hp) (Grow.drops ((Grow.refl.new hpd).new hp)) ?_ ?_⟩
      · rw [List.take_succ, hpr, List.map_append, List.map_append]; rfl
      · exact dp_pair hp (keepA hacc hpd)
    · have e8 : (((bps a b).reverse.take vs1.reverse.length).map flip).map pd = (bps b a).map pd := by
        rw [List.length_reverse, lv, ← List.length_reverse, List.take_length, ← bps_rev hl]
      rw [e8] at n8
      have fit2 : Fit 21614 2 (.list ((bps b a).map pd)) := rows_fit (fun x hx => ⟨(bps_mem hl.symm bb ba x hx).1, by have := (bps_mem hl.symm bb ba x hx).2; omega⟩) (by rw [bps_len hl.symm, ← lcp_comm a b]; omega)
      refine ⟨w, a, w1, w2, ba, la, .inr ⟨b, rfl, bb, lb, fun l5 H9 n9 => ?_⟩⟩
      rw [← bps_pd] at n9
      refine ⟨_, _, n9.dp, (n8.more n9.grows).dp, fit2.shaped (by decide), fit2.shaped (by decide), ?_⟩
      show if (!PyData.eqv _ _) = true then _ else _
      rw [eqv_self fit2]
      have g19 : Grow H1 H9 := g17.trans (n8.grows.trans n9.grows)
      -- told.clear()
      refine ⟨⟨vs1, g19 _ _ v1⟩, vs1, g19 _ _ v1, ?_⟩
      have k0 : Dp K H0 (.ref l0) (.list ((bps a b).map pd)) := n0.dp
      have gA : Grow H0 (upd H9 l1 (.lst [])) := n1.grow.trans (g19.drops.trans Grow.set)
      refine ⟨w, b, w1, w2, bb, lb, .inr ⟨a, rfl, ba, la, fun l6 H10 n10 => ?_⟩⟩
      rw [← bps_pd] at n10
      refine ⟨_, _, n10.dp, (gA.trans n10.grows).dp _ _ k0, fit.shaped (by decide), fit.shaped (by decide), ?_⟩
      show Q (.bl (PyData.eqv _ _)) H10
      rw [eqv_self fit]
      exact q _ (n0.grows.trans (gA.trans n10.grows))
end L34

set_option maxRecDepth 100000
set_option maxHeartbeats 1000000
namespace L34
open PySem L2 CW
variable {K : PySem.W.Frag} {A : Ad} {W : WX}
def nps (e : List Nat) : List (List Nat × Bool) := (List.range (e.length + 1)).map fun k => (e.take k, false)
theorem nps_pd (e : List Nat) : (nps e).map pd = bordersN e := by
  unfold nps bordersN
  rw [List.map_map]
  rfl
theorem nps_fit {e : List Nat} (h : Bt e) (hl : e.length ≤ 100) : Fit 21614 2 (.list ((nps e).map pd)) := by
  refine rows_fit (fun x hx => ?_) (by unfold nps; rw [List.length_map, List.length_range]; omega)
  obtain ⟨i, _, rfl⟩ := List.mem_map.mp hx
  exact ⟨h.take _, by show (e.take _).length ≤ _; rw [List.length_take]; omega⟩
theorem borders_self (l : List Nat) : borders l l = [] := by
  unfold borders ups dns
  rw [lcp_self, Nat.sub_self]
  rfl
theorem atI_neg1 {α : Type} {xs : List α} (h : 0 < xs.length) : atI xs (-1) = xs[xs.length - 1]? := by
  unfold atI ixN
  rw [if_neg (by omega), if_pos (by omega)]
  show xs[((-1 : Int) + (xs.length : Int)).toNat]? = _
  congr 1
  omega
theorem cutV_last {xs : List V} {x : V} : cutV (xs ++ [x]) none (some (-1)) = xs := by
  unfold cutV
  have e1 : HT.sIx (xs ++ [x]).length 0 none = 0 := rfl
  have e2 : HT.sIx (xs ++ [x]).length (xs ++ [x]).length (some (-1)) = xs.length := by
    show (if (-1 : Int) < 0 then ((-1 : Int) + ((xs ++ [x]).length : Int)).toNat else min (-1 : Int).toNat (xs ++ [x]).length) = _
    rw [if_pos (by omega), List.length_append, List.length_singleton]
    omega
  rw [e1, e2, List.drop_zero, Nat.sub_zero, List.take_left']
  rfl
theorem zero_le' : ([] : List V).length ≤ sizeLine := by decide
theorem pair_fit (x : List Nat × Bool) (h : Bt x.1) (hl : x.1.length ≤ 100) : SeqAt.shaped (pd x) = true := (pd_fit h hl).shaped (by decide)
theorem rd_law_right (vs : List V) (H : Hp) (Q : VK) (R : XK) (h : sp__law_right K A vs H Q R) : vs.length = 1 ∧ wS K W (b__law_right K A) (Dn Q) (start N__law_right vs) H := by
  obtain ⟨p, rfl, hp, q⟩ := h
  have hz : (sizeLine : Nat) = 16777216 := sizeLine_eq
  refine ⟨rfl, by show 9 ≤ sizeLine; decide, fun l hl => ?_⟩
  have c0 := (Chg.refl hp).new (o := .lst [.int 1, .int 2, .int 3, .int 4, .int 5, .int 6, .int 98, .int 99, .int 100]) hl
  refine ⟨p, _, rfl, c0.pot, .inl ⟨l, _, rfl, Chg.ne hp hl, SqL.of upd_same, by show 0 < 9; decide, by show 9 < 1000000; decide, fun v H1 hv ch1 => ?_⟩⟩
  have c1 := c0.trans ch1
  obtain ⟨w, rfl, w1, w2⟩ : ∃ s : Int, v = .int s ∧ 1 ≤ s ∧ s ≤ 100 := by
    simp only [List.mem_cons, List.not_mem_nil, or_false] at hv
    rcases hv with rfl | rfl | rfl | rfl | rfl | rfl | rfl | rfl | rfl <;> exact ⟨_, rfl, by decide, by decide⟩
  refine ⟨p, w, rfl, c1.pot, by omega, by omega, fun s H2 ls bs ch2 => ?_⟩
  have c2 := c1.trans ch2
  refine ⟨4, rfl, by decide, by decide, ?_⟩
  refine for_range (lo := 0) (n := 4) (fun k σ H' => ∃ s a b c, σ = [some (.ref p), some (.int w), some (.str (T s)), a, b, c] ∧ (s.length : Int) = w ∧ Bt s ∧ Chg p H H') ⟨s, _, _, _, rfl, ls, bs, c2⟩ ?_ ?_
  · rintro k σ H3 hk ⟨s, a, b, c, rfl, ls, bs, c3⟩
    refine ⟨p, s, rfl, c3.pot, bs, by omega, fun m H4 lm bm ch4 => ?_⟩
    have c4 := c3.trans ch4
    have lm' : (m.length : Int) = w := by omega
    have h100 : m.length ≤ 100 := by omega
    -- the pair
    refine ⟨w, s, m, rfl, w1, w2, bs, bm, ls, lm', fun H5 g5 => ?_⟩
    have c5 := c4.trans (Chg.of_grow c4.pot g5)
    refine ⟨w, s, w1, w2, bs, ls, .inr ⟨s, rfl, bs, ls, fun l1 H6 n6 => ?_⟩⟩
    rw [borders_self] at n6
    have c6 := c5.trans (Chg.of_grow c5.pot n6.grows)
    refine ⟨zero_le', fun u hu => ?_⟩
    have c7 := c6.new (o := .lst []) hu
    have g7 : Grow H6 (upd H6 u (.lst [])) := Grow.refl.new hu
    refine ⟨.list [], .list [], g7.dp _ _ n6.dp, .lst (SqL.of upd_same) .nil, by decide +kernel, by decide +kernel, ?_⟩
    generalize upd H6 u (.lst []) = H7 at c7
    -- from none
    refine ⟨w, m, w1, w2, bm, lm', .inl ⟨rfl, fun l5 H8 n8 => ?_⟩⟩
    rw [← nps_pd] at n8
    have c8 := c7.trans (Chg.of_grow c7.pot n8.grows)
    have fit := nps_fit bm h100
    obtain ⟨z1, z2, z3⟩ := Fit.raw (two_fit fit) (by omega) (by omega)
    refine ⟨w, m, w1, w2, bm, lm', .inl ⟨rfl, fun l6 H9 n9 => ?_⟩⟩
    rw [← nps_pd] at n9
    refine ⟨two_le, fun q1 e1 => ?_⟩
    have g10 : Grow H9 (upd H9 q1 (.lst [.ref l5, .ref l6])) := Grow.refl.new e1
    refine Or.inl ⟨.list [.list ((nps m).map pd), .list ((nps m).map pd)], .lst (SqL.of upd_same) (.cons (g10.dp _ _ (n8.more n9.grows).dp) (.cons (g10.dp _ _ n9.dp) .nil)), z1, z2, z3, ?_⟩
    refine Or.inl ⟨m, rfl, by omega, fun l7 H11 n11 => ?_⟩
    rw [← nps_pd] at n11
    refine ⟨one_le, fun u1 f1 => ⟨u1, _, [.ref l7], rfl, rfl, upd_same, by decide, by decide, (by show 1 * 2 ≤ sizeLine; decide), fun u2 f2 => ?_⟩⟩
    have e22 : (List.replicate (Int.toNat 2) [V.ref l7]).flatten = [V.ref l7, V.ref l7] := rfl
    rw [e22]
    have g12 : Grow H11 (upd (upd H11 u1 (.lst [.ref l7])) u2 (.lst [.ref l7, .ref l7])) := (Grow.refl.new f1).new f2
    refine Or.inl ⟨.list [.list ((nps m).map pd), .list ((nps m).map pd)], .lst (SqL.of (upd_same (o := .lst [.ref l7, .ref l7]))) (.cons (g12.dp _ _ n11.dp) (.cons (g12.dp _ _ n11.dp) .nil)), z1, z2, z3, ⟨rfl, ?_⟩⟩
    show if (!decide (V.str (PyData.list [.list ((nps m).map pd), .list ((nps m).map pd)]).shown = V.str (PyData.list [.list ((nps m).map pd), .list ((nps m).map pd)]).shown)) = true then _ else _
    rw [decide_eq_true rfl]
    have g8 : Grow H8 (upd (upd H11 u1 (.lst [.ref l7])) u2 (.lst [.ref l7, .ref l7])) := n9.grows.trans (g10.trans (n11.grows.trans g12))
    have step : ∀ H12, Grow H8 H12 → wS K W (.cons (.ite (.or (.cmp .NotEq (.bi .len (.cons (.v 5) (.nil))) (.bin .Add (.v 1) (.c (.int 1)))) (.or (.cmp .NotEq (.sub (.v 5) (.c (.int 0))) (.tup (.cons (.c (.str "")) (.cons (.c (.str "down")) (.nil))))) (.cmp .NotEq (.sub (.v 5) (.un .USub (.c (.int 1)))) (.tup (.cons (.v 4) (.cons (.c (.str "down")) (.nil))))))) (.cons (.ret (.c (.bl false))) (.nil)) (.nil)) (.nil)) (Dn Q) [some (.ref p), some (.int w), some (.str (T s)), some (.int (0 + (k : Int))), some (.str (T m)), some (.ref l5)] H12 → True := fun _ _ _ => trivial
    clear step
    generalize upd (upd H11 u1 (.lst [.ref l7])) u2 (.lst [.ref l7, .ref l7]) = H12 at g8 ⊢
    have c12 := c8.trans (Chg.of_grow c8.pot g8)
    obtain ⟨v5, hv5, dv5⟩ := n8.here
    have lv : v5.length = m.length + 1 := by rw [dpAll_len dv5, List.length_map]; unfold nps; rw [List.length_map, List.length_range]
    have row : ∀ i x, v5[i]? = some x → ∃ r, x = .ref r ∧ i < m.length + 1 ∧ SqT K (dropA H8 l5) r [.str (T (m.take i)), .str "down"] := by
      intro i x hx
      obtain ⟨d, hd, dpx⟩ := dpAll_get dv5 hx
      have hi : i < m.length + 1 := by
        have := (List.getElem?_eq_some_iff.mp hx).1
        omega
      have : ((nps m).map pd)[i]? = some (pd (m.take i, false)) := by
        unfold nps
        rw [List.getElem?_map, List.getElem?_map, List.getElem?_range hi]
        rfl
      rw [this] at hd
      obtain rfl := Option.some.inj hd
      obtain ⟨r, rfl, hr⟩ := pd_inv dpx
      exact ⟨r, rfl, hi, hr⟩
    obtain ⟨r0, er0, _, hr0⟩ := row 0 v5[0] (List.getElem?_eq_getElem (by omega))
    obtain ⟨r1, er1, _, hr1⟩ := row m.length v5[m.length] (List.getElem?_eq_getElem (by omega))
    refine Or.inl ⟨v5, SqL.of (g8 _ _ hv5), ⟨rfl, ?_⟩⟩
    show if (!decide (V.int (v5.length : Int) = V.int (w + 1))) = true then _ else _
    rw [decide_eq_true (by congr 1; omega)]
    -- the first
    refine Or.inl ⟨l5, v5, 0, .ref r0, rfl, rfl, SqL.of (g8 _ _ hv5), by rw [← er0]; exact atI_nat (xs := v5) (j := 0) (List.getElem?_eq_getElem (by omega)), ?_⟩
    refine ⟨two_le, fun t1 i1 => ?_⟩
    have g13 : Grow H8 (upd H12 t1 (.tup [.str "", .str "down"])) := g8.new i1
    have c13 := c12.new (o := .tup [.str "", .str "down"]) i1
    have nil_bt : Bt ([] : List Nat) := fun _ z => nomatch z
    refine ⟨pd ([], false), pd ([], false), .tup ((Grow.drop.trans g13).sqt hr0) (.cons (.str _) (.cons (.str _) .nil)), .tup (.inl (.inl upd_same)) (.cons (.str _) (.cons (.str _) .nil)), pair_fit _ nil_bt (by decide), pair_fit _ nil_bt (by decide), ?_⟩
    show if (!PyData.eqv _ _) = true then _ else _
    rw [eqv_self (pd_fit (x := ([], false)) nil_bt (by decide))]
    generalize upd H12 t1 (.tup [.str "", .str "down"]) = H13 at g13 c13 ⊢
    -- the last
    refine Or.inl ⟨l5, v5, -1, .ref r1, rfl, rfl, SqL.of (g13 _ _ hv5), by rw [atI_neg1 (by omega), lv, Nat.add_sub_cancel, ← er1]; exact List.getElem?_eq_getElem (by omega), ?_⟩
    refine ⟨two_le, fun t2 i2 => ?_⟩
    have g14 : Grow H8 (upd H13 t2 (.tup [.str (T m), .str "down"])) := g13.new i2
    have c14 := c13.new (o := .tup [.str (T m), .str "down"]) i2
    rw [List.take_length] at hr1
    refine ⟨pd (m, false), pd (m, false), .tup ((Grow.drop.trans g14).sqt hr1) (.cons (.str _) (.cons (.str _) .nil)), .tup (.inl (.inl upd_same)) (.cons (.str _) (.cons (.str _) .nil)), pair_fit _ bm h100, pair_fit _ bm h100, ?_⟩
    show if (!PyData.eqv _ _) = true then _ else _
    rw [eqv_self (pd_fit (x := (m, false)) bm h100)]
    generalize upd H13 t2 (.tup [.str (T m), .str "down"]) = H14 at g14 c14 ⊢
    -- told.append(0)
    refine ⟨⟨v5, g14 _ _ hv5⟩, v5, g14 _ _ hv5, by omega, ?_⟩
    have gS : Grow (dropA H8 l5) (upd H14 l5 (.lst (v5 ++ [.int 0]))) := g14.drops.trans Grow.set
    have c15 : Chg p H (upd H14 l5 (.lst (v5 ++ [.int 0]))) := by
      have z : Chg p H7 H14 := Chg.of_grow c7.pot (n8.grows.trans g14)
      exact c7.trans (z.set c7.pot n8.fresh)
    have h15 : upd H14 l5 (.lst (v5 ++ [.int 0])) l5 = some (.lst (v5 ++ [.int 0])) := upd_same
    generalize upd H14 l5 (.lst (v5 ++ [.int 0])) = H15 at gS c15 h15 ⊢
    refine ⟨w, m, w1, w2, bm, lm', .inl ⟨rfl, fun l8 H16 n16 => ?_⟩⟩
    rw [← nps_pd] at n16
    have c16 := c15.trans (Chg.of_grow c15.pot n16.grows)
    refine ⟨l5, _, rfl, SqL.of (n16.grows _ _ h15), fun t3 i3 => ?_⟩
    rw [cutV_last]
    have c17 := c16.new (o := .lst v5) i3
    have g17 : Grow H16 (upd H16 t3 (.lst v5)) := Grow.refl.new i3
    refine ⟨_, _, g17.dp _ _ n16.dp, .lst (SqL.of upd_same) ((gS.trans (n16.grows.trans g17)).dpAll _ _ dv5), fit.shaped (by decide), fit.shaped (by decide), ?_⟩
    show if (!PyData.eqv _ _) = true then _ else _
    rw [eqv_self fit]
    generalize upd H16 t3 (.lst v5) = H17 at c17 ⊢
    -- the next spot
    refine ⟨p, w, rfl, c17.pot, by omega, by omega, fun s2 H18 ls2 bs2 ch18 => ?_⟩
    have c18 := c17.trans ch18
    refine ⟨two_le, fun t4 i4 => ?_⟩
    have c19 := c18.new (o := .lst [.str (T m), .str (T s2)]) i4
    refine ⟨p, _, rfl, c19.pot, .inl ⟨t4, _, rfl, Chg.ne c18.pot i4, SqL.of upd_same, by show 0 < 2; decide, by show 2 < 1000000; decide, fun v H20 hv ch20 => ?_⟩⟩
    have hv : v = .str (T m) ∨ v = .str (T s2) := by simpa using hv
    rcases hv with rfl | rfl
    · exact ⟨m, _, _, _, rfl, lm', bm, c19.trans ch20⟩
    · exact ⟨s2, _, _, _, rfl, ls2, bs2, c19.trans ch20⟩
  · rintro σ H' ⟨s, a, b, c, rfl, _, _, c2⟩
    exact q H' c2
end L34

set_option maxRecDepth 100000
set_option maxHeartbeats 1000000
namespace L34
open PySem L2 CW
def Ad0 : Ad := Ad.mk
theorem all_mk {l : PySem.W.OpenLaw} {w : World} {K : PySem.W.Frag} {h : Heap} {mg : Str → Option Value} {fa : Addr} (X : K.In h) (G : h.Ns mainGlobals mg) (hfa : mg "law" = some (.ref fa))
    {f1 f2 f3 f4 f5 f6 f7 f8 f9 f10 f11 f12 f13 f14 f15 f16 f17 f18 f19 f20 : Addr} {od1 an1 od2 an2 od3 an3 od4 an4 od5 an5 od6 an6 od7 an7 od8 an8 od9 an9 od10 an10 od11 an11 od12 an12 od13 an13 od14 an14 od15 an15 od16 an16 od17 an17 od18 an18 od19 an19 od20 an20 : Option Addr} {sl1 sl2 sl3 sl4 sl5 sl6 sl7 sl8 sl9 sl10 sl11 sl12 sl13 sl14 sl15 sl16 sl17 sl18 sl19 sl20 : Array (Option Value)} {oc1 kV1 dc1 pm1 cd1 ct1 oc2 kV2 dc2 pm2 cd2 ct2 oc3 kV3 dc3 pm3 cd3 ct3 oc4 kV4 dc4 pm4 cd4 ct4 oc5 kV5 dc5 pm5 cd5 ct5 oc6 kV6 dc6 pm6 cd6 ct6 oc7 kV7 dc7 pm7 cd7 ct7 oc8 kV8 dc8 pm8 cd8 ct8 oc9 kV9 dc9 pm9 cd9 ct9 oc10 kV10 dc10 pm10 cd10 ct10 oc11 kV11 dc11 pm11 cd11 ct11 oc12 kV12 dc12 pm12 cd12 ct12 oc13 kV13 dc13 pm13 cd13 ct13 oc14 kV14 dc14 pm14 cd14 ct14 oc15 kV15 dc15 pm15 cd15 ct15 oc16 kV16 dc16 pm16 cd16 ct16 oc17 kV17 dc17 pm17 cd17 ct17 oc18 kV18 dc18 pm18 cd18 ct18 oc19 kV19 dc19 pm19 cd19 ct19 oc20 kV20 dc20 pm20 cd20 ct20 : Value} {t_DOWN t_MOST_WIDTH t_UP : Tok}
    (a1 : PySem.W.nsIn K mainGlobals "_law_draw" = some (some (.ref f1))) (l1 : K.lookup f1 = some ⟨oc1, od1, .func (PySem.W.fnOf "_law_draw" "_law_draw" (defArgs st__law_draw) (defBody st__law_draw) (defScope st__law_draw) .none kV1 dc1 pm1 an1 cd1 ct1), sl1⟩) (c1 : PySem.W.codeIn K cd1 "_law_draw" = true) (k1 : PySem.W.keepIn K (.ref f1) = true)
    (a2 : PySem.W.nsIn K mainGlobals "_law_pick" = some (some (.ref f2))) (l2 : K.lookup f2 = some ⟨oc2, od2, .func (PySem.W.fnOf "_law_pick" "_law_pick" (defArgs st__law_pick) (defBody st__law_pick) (defScope st__law_pick) .none kV2 dc2 pm2 an2 cd2 ct2), sl2⟩) (c2 : PySem.W.codeIn K cd2 "_law_pick" = true) (k2 : PySem.W.keepIn K (.ref f2) = true)
    (a3 : PySem.W.nsIn K mainGlobals "_law_spot" = some (some (.ref f3))) (l3 : K.lookup f3 = some ⟨oc3, od3, .func (PySem.W.fnOf "_law_spot" "_law_spot" (defArgs st__law_spot) (defBody st__law_spot) (defScope st__law_spot) .none kV3 dc3 pm3 an3 cd3 ct3), sl3⟩) (c3 : PySem.W.codeIn K cd3 "_law_spot" = true) (k3 : PySem.W.keepIn K (.ref f3) = true)
    (a4 : PySem.W.nsIn K mainGlobals "_law_near" = some (some (.ref f4))) (l4 : K.lookup f4 = some ⟨oc4, od4, .func (PySem.W.fnOf "_law_near" "_law_near" (defArgs st__law_near) (defBody st__law_near) (defScope st__law_near) .none kV4 dc4 pm4 an4 cd4 ct4), sl4⟩) (c4 : PySem.W.codeIn K cd4 "_law_near" = true) (k4 : PySem.W.keepIn K (.ref f4) = true)
    (a5 : PySem.W.nsIn K mainGlobals "is_integer" = some (some (.ref f5))) (l5 : K.lookup f5 = some ⟨oc5, od5, .func (PySem.W.fnOf "is_integer" "is_integer" (defArgs st_is_integer) (defBody st_is_integer) (defScope st_is_integer) .none kV5 dc5 pm5 an5 cd5 ct5), sl5⟩) (c5 : PySem.W.codeIn K cd5 "is_integer" = true) (k5 : PySem.W.keepIn K (.ref f5) = true)
    (a6 : PySem.W.nsIn K mainGlobals "is_width" = some (some (.ref f6))) (l6 : K.lookup f6 = some ⟨oc6, od6, .func (PySem.W.fnOf "is_width" "is_width" (defArgs st_is_width) (defBody st_is_width) (defScope st_is_width) .none kV6 dc6 pm6 an6 cd6 ct6), sl6⟩) (c6 : PySem.W.codeIn K cd6 "is_width" = true) (k6 : PySem.W.keepIn K (.ref f6) = true)
    (a7 : PySem.W.nsIn K mainGlobals "want_width" = some (some (.ref f7))) (l7 : K.lookup f7 = some ⟨oc7, od7, .func (PySem.W.fnOf "want_width" "want_width" (defArgs st_want_width) (defBody st_want_width) (defScope st_want_width) .none kV7 dc7 pm7 an7 cd7 ct7), sl7⟩) (c7 : PySem.W.codeIn K cd7 "want_width" = true) (k7 : PySem.W.keepIn K (.ref f7) = true)
    (a8 : PySem.W.nsIn K mainGlobals "is_bits" = some (some (.ref f8))) (l8 : K.lookup f8 = some ⟨oc8, od8, .func (PySem.W.fnOf "is_bits" "is_bits" (defArgs st_is_bits) (defBody st_is_bits) (defScope st_is_bits) .none kV8 dc8 pm8 an8 cd8 ct8), sl8⟩) (c8 : PySem.W.codeIn K cd8 "is_bits" = true) (k8 : PySem.W.keepIn K (.ref f8) = true)
    (a9 : PySem.W.nsIn K mainGlobals "is_address" = some (some (.ref f9))) (l9 : K.lookup f9 = some ⟨oc9, od9, .func (PySem.W.fnOf "is_address" "is_address" (defArgs st_is_address) (defBody st_is_address) (defScope st_is_address) .none kV9 dc9 pm9 an9 cd9 ct9), sl9⟩) (c9 : PySem.W.codeIn K cd9 "is_address" = true) (k9 : PySem.W.keepIn K (.ref f9) = true)
    (a10 : PySem.W.nsIn K mainGlobals "want_address" = some (some (.ref f10))) (l10 : K.lookup f10 = some ⟨oc10, od10, .func (PySem.W.fnOf "want_address" "want_address" (defArgs st_want_address) (defBody st_want_address) (defScope st_want_address) .none kV10 dc10 pm10 an10 cd10 ct10), sl10⟩) (c10 : PySem.W.codeIn K cd10 "want_address" = true) (k10 : PySem.W.keepIn K (.ref f10) = true)
    (a11 : PySem.W.nsIn K mainGlobals "begin_alike" = some (some (.ref f11))) (l11 : K.lookup f11 = some ⟨oc11, od11, .func (PySem.W.fnOf "begin_alike" "begin_alike" (defArgs st_begin_alike) (defBody st_begin_alike) (defScope st_begin_alike) .none kV11 dc11 pm11 an11 cd11 ct11), sl11⟩) (c11 : PySem.W.codeIn K cd11 "begin_alike" = true) (k11 : PySem.W.keepIn K (.ref f11) = true)
    (a12 : PySem.W.nsIn K mainGlobals "borders_of" = some (some (.ref f12))) (l12 : K.lookup f12 = some ⟨oc12, od12, .func (PySem.W.fnOf "borders_of" "borders_of" (defArgs st_borders_of) (defBody st_borders_of) (defScope st_borders_of) .none kV12 dc12 pm12 an12 cd12 ct12), sl12⟩) (c12 : PySem.W.codeIn K cd12 "borders_of" = true) (k12 : PySem.W.keepIn K (.ref f12) = true)
    (a13 : PySem.W.nsIn K mainGlobals "path" = some (some (.ref f13))) (l13 : K.lookup f13 = some ⟨oc13, od13, .func (PySem.W.fnOf "path" "path" (defArgs st_path) (defBody st_path) (defScope st_path) .none kV13 dc13 pm13 an13 cd13 ct13), sl13⟩) (c13 : PySem.W.codeIn K cd13 "path" = true) (k13 : PySem.W.keepIn K (.ref f13) = true)
    (a14 : PySem.W.nsIn K mainGlobals "_law_path" = some (some (.ref f14))) (l14 : K.lookup f14 = some ⟨oc14, od14, .func (PySem.W.fnOf "_law_path" "_law_path" (defArgs st__law_path) (defBody st__law_path) (defScope st__law_path) .none kV14 dc14 pm14 an14 cd14 ct14), sl14⟩) (c14 : PySem.W.codeIn K cd14 "_law_path" = true) (k14 : PySem.W.keepIn K (.ref f14) = true)
    (a15 : PySem.W.nsIn K mainGlobals "common" = some (some (.ref f15))) (l15 : K.lookup f15 = some ⟨oc15, od15, .func (PySem.W.fnOf "common" "common" (defArgs st_common) (defBody st_common) (defScope st_common) .none kV15 dc15 pm15 an15 cd15 ct15), sl15⟩) (c15 : PySem.W.codeIn K cd15 "common" = true) (k15 : PySem.W.keepIn K (.ref f15) = true)
    (a16 : PySem.W.nsIn K mainGlobals "is_stretch" = some (some (.ref f16))) (l16 : K.lookup f16 = some ⟨oc16, od16, .func (PySem.W.fnOf "is_stretch" "is_stretch" (defArgs st_is_stretch) (defBody st_is_stretch) (defScope st_is_stretch) .none kV16 dc16 pm16 an16 cd16 ct16), sl16⟩) (c16 : PySem.W.codeIn K cd16 "is_stretch" = true) (k16 : PySem.W.keepIn K (.ref f16) = true)
    (a17 : PySem.W.nsIn K mainGlobals "_law_pair_right" = some (some (.ref f17))) (l17 : K.lookup f17 = some ⟨oc17, od17, .func (PySem.W.fnOf "_law_pair_right" "_law_pair_right" (defArgs st__law_pair_right) (defBody st__law_pair_right) (defScope st__law_pair_right) .none kV17 dc17 pm17 an17 cd17 ct17), sl17⟩) (c17 : PySem.W.codeIn K cd17 "_law_pair_right" = true) (k17 : PySem.W.keepIn K (.ref f17) = true)
    (a18 : PySem.W.nsIn K mainGlobals "_law_right" = some (some (.ref f18))) (l18 : K.lookup f18 = some ⟨oc18, od18, .func (PySem.W.fnOf "_law_right" "_law_right" (defArgs st__law_right) (defBody st__law_right) (defScope st__law_right) .none kV18 dc18 pm18 an18 cd18 ct18), sl18⟩) (c18 : PySem.W.codeIn K cd18 "_law_right" = true) (k18 : PySem.W.keepIn K (.ref f18) = true)
    (a19 : PySem.W.nsIn K mainGlobals "_law_pot" = some (some (.ref f19))) (l19 : K.lookup f19 = some ⟨oc19, od19, .func (PySem.W.fnOf "_law_pot" "_law_pot" (defArgs st__law_pot) (defBody st__law_pot) (defScope st__law_pot) .none kV19 dc19 pm19 an19 cd19 ct19), sl19⟩) (c19 : PySem.W.codeIn K cd19 "_law_pot" = true) (k19 : PySem.W.keepIn K (.ref f19) = true)
    (a20 : PySem.W.nsIn K mainGlobals "law" = some (some (.ref f20))) (l20 : K.lookup f20 = some ⟨oc20, od20, .func (PySem.W.fnOf "law" "law" (defArgs st_law) (defBody st_law) (defScope st_law) .none kV20 dc20 pm20 an20 cd20 ct20), sl20⟩) (c20 : PySem.W.codeIn K cd20 "law" = true) (k20 : PySem.W.keepIn K (.ref f20) = true)
    (v_DOWN : PySem.W.nsIn K mainGlobals "DOWN" = some (some (.str "down" t_DOWN)))
    (v_MOST_WIDTH : PySem.W.nsIn K mainGlobals "MOST_WIDTH" = some (some (.int 100 t_MOST_WIDTH)))
    (v_UP : PySem.W.nsIn K mainGlobals "UP" = some (some (.str "up" t_UP)))
    (z_abs : PySem.W.nsIn K mainGlobals "abs" = some none)
    (z_all : PySem.W.nsIn K mainGlobals "all" = some none)
    (z_bool : PySem.W.nsIn K mainGlobals "bool" = some none)
    (z_divmod : PySem.W.nsIn K mainGlobals "divmod" = some none)
    (z_int : PySem.W.nsIn K mainGlobals "int" = some none)
    (z_isinstance : PySem.W.nsIn K mainGlobals "isinstance" = some none)
    (z_len : PySem.W.nsIn K mainGlobals "len" = some none)
    (z_max : PySem.W.nsIn K mainGlobals "max" = some none)
    (z_min : PySem.W.nsIn K mainGlobals "min" = some none)
    (z_range : PySem.W.nsIn K mainGlobals "range" = some none)
    (z_repr : PySem.W.nsIn K mainGlobals "repr" = some none)
    (z_str : PySem.W.nsIn K mainGlobals "str" = some none) :
    ∃ fd : FuncData, (∀ (s : Shared) (v : Value), BindsTo s fd ⟨[v], []⟩ [("_law_script", v)]) ∧ ∀ base : Heap, K.In base → base.Ns mainGlobals mg → FnG l.prog w K mg base 20 fa fd ["_law_script"] (sp_law K Ad0) := by
  have e := hfa.symm.trans (PySem.W.mg_of X G a20)
  cases e
  refine ⟨PySem.W.fnOf "law" "law" (defArgs st_law) (defBody st_law) (defScope st_law) .none kV20 dc20 pm20 an20 cd20 ct20, fun s v => .of_eq rfl, fun base _ _ => ?_⟩
  have m_abs := PySem.W.mg_none_of X G z_abs
  have m_all := PySem.W.mg_none_of X G z_all
  have m_bool := PySem.W.mg_none_of X G z_bool
  have m_divmod := PySem.W.mg_none_of X G z_divmod
  have m_int := PySem.W.mg_none_of X G z_int
  have m_isinstance := PySem.W.mg_none_of X G z_isinstance
  have m_len := PySem.W.mg_none_of X G z_len
  have m_max := PySem.W.mg_none_of X G z_max
  have m_min := PySem.W.mg_none_of X G z_min
  have m_range := PySem.W.mg_none_of X G z_range
  have m_repr := PySem.W.mg_none_of X G z_repr
  have m_str := PySem.W.mg_none_of X G z_str
  have m_DOWN := PySem.W.mg_of X G v_DOWN
  have m_MOST_WIDTH := PySem.W.mg_of X G v_MOST_WIDTH
  have m_UP := PySem.W.mg_of X G v_UP
  have g1 := PySem.W.mg_of X G a1
  have g2 := PySem.W.mg_of X G a2
  have g3 := PySem.W.mg_of X G a3
  have g4 := PySem.W.mg_of X G a4
  have g5 := PySem.W.mg_of X G a5
  have g6 := PySem.W.mg_of X G a6
  have g7 := PySem.W.mg_of X G a7
  have g8 := PySem.W.mg_of X G a8
  have g9 := PySem.W.mg_of X G a9
  have g10 := PySem.W.mg_of X G a10
  have g11 := PySem.W.mg_of X G a11
  have g12 := PySem.W.mg_of X G a12
  have g13 := PySem.W.mg_of X G a13
  have g14 := PySem.W.mg_of X G a14
  have g15 := PySem.W.mg_of X G a15
  have g16 := PySem.W.mg_of X G a16
  have g17 := PySem.W.mg_of X G a17
  have g18 := PySem.W.mg_of X G a18
  have g19 := PySem.W.mg_of X G a19
  have g20 := PySem.W.mg_of X G a20
  have F1 : FnG l.prog w K mg base 1 f1 _ ["_law_pot_here", "_law_many"] (sp__law_draw K (Ad.mk)) := fn_G l1 c1 s__law_draw (tb := tb__law_draw K (Ad.mk)) (gcons ⟨m_divmod, by decide +kernel⟩ (gcons ⟨m_int, by decide +kernel, fun b e => by cases e <;> rfl⟩ (gnil))) (c__law_draw K (Ad.mk)) (fun vs H Q R z => CW.rd_draw (by decide) (by decide) (by decide) (by decide) (by decide) vs H Q R z)
  have B1_0 : KB K (PySem.W.fnOf "_law_draw" "_law_draw" (defArgs st__law_draw) (defBody st__law_draw) (defScope st__law_draw) .none kV1 dc1 pm1 an1 cd1 ct1) ["_law_pot_here", "_law_many"] 2 [] [.p 0, .p 1] := kb_of rfl fun us ws h1 h2 => match us, ws, h1, h2 with | [_, _], [], _, _ => rfl
  have F2 : FnG l.prog w K mg base 2 f2 _ ["_law_pot_here", "_law_some"] (sp__law_pick K (Ad.mk)) := fn_G l2 c2 s__law_pick (tb := tb__law_pick K (Ad.mk)) (gcons ⟨f1, _, g1, k1, F1.up (by decide), kcons B1_0 (knil)⟩ (gcons ⟨m_len, by decide +kernel⟩ (gnil))) (c__law_pick K (Ad.mk)) (fun vs H Q R z => CW.rd_among vs H Q R z)
  have B2_0 : KB K (PySem.W.fnOf "_law_pick" "_law_pick" (defArgs st__law_pick) (defBody st__law_pick) (defScope st__law_pick) .none kV2 dc2 pm2 an2 cd2 ct2) ["_law_pot_here", "_law_some"] 2 [] [.p 0, .p 1] := kb_of rfl fun us ws h1 h2 => match us, ws, h1, h2 with | [_, _], [], _, _ => rfl
  have F3 : FnG l.prog w K mg base 3 f3 _ ["_law_pot_here", "_law_wide"] (sp__law_spot K (Ad.mk)) := fn_G l3 c3 s__law_spot (tb := tb__law_spot K (Ad.mk)) (gcons ⟨rfl, m_range⟩ (gcons ⟨f1, _, g1, k1, F1.up (by decide), kcons B1_0 (knil)⟩ (gnil))) (c__law_spot K (Ad.mk)) (fun vs H Q R z => rd_law_spot vs H Q R z)
  have B3_0 : KB K (PySem.W.fnOf "_law_spot" "_law_spot" (defArgs st__law_spot) (defBody st__law_spot) (defScope st__law_spot) .none kV3 dc3 pm3 an3 cd3 ct3) ["_law_pot_here", "_law_wide"] 2 [] [.p 0, .p 1] := kb_of rfl fun us ws h1 h2 => match us, ws, h1, h2 with | [_, _], [], _, _ => rfl
  have F4 : FnG l.prog w K mg base 4 f4 _ ["_law_pot_here", "_law_spot_here"] (sp__law_near K (Ad.mk)) := fn_G l4 c4 s__law_near (tb := tb__law_near K (Ad.mk)) (gcons ⟨f1, _, g1, k1, F1.up (by decide), kcons B1_0 (knil)⟩ (gcons ⟨m_len, by decide +kernel⟩ (gcons ⟨f3, _, g3, k3, F3.up (by decide), kcons B3_0 (knil)⟩ (gnil)))) (c__law_near K (Ad.mk)) (fun vs H Q R z => rd_law_near vs H Q R z)
  have B4_0 : KB K (PySem.W.fnOf "_law_near" "_law_near" (defArgs st__law_near) (defBody st__law_near) (defScope st__law_near) .none kV4 dc4 pm4 an4 cd4 ct4) ["_law_pot_here", "_law_spot_here"] 2 [] [.p 0, .p 1] := kb_of rfl fun us ws h1 h2 => match us, ws, h1, h2 with | [_, _], [], _, _ => rfl
  have F5 : FnG l.prog w K mg base 5 f5 _ ["value"] (sp_is_integer K (Ad.mk)) := fn_G l5 c5 s_is_integer (tb := tb_is_integer K (Ad.mk)) (gcons ⟨m_isinstance, by decide +kernel⟩ (gcons ⟨m_int, by decide +kernel, fun b e => by cases e <;> rfl⟩ (gcons ⟨m_bool, by decide +kernel, fun b e => by cases e <;> rfl⟩ (gnil)))) (c_is_integer K (Ad.mk)) (fun vs H Q R z => CW.rd_isInt vs H Q R z)
  have B5_0 : KB K (PySem.W.fnOf "is_integer" "is_integer" (defArgs st_is_integer) (defBody st_is_integer) (defScope st_is_integer) .none kV5 dc5 pm5 an5 cd5 ct5) ["value"] 1 [] [.p 0] := kb_of rfl fun us ws h1 h2 => match us, ws, h1, h2 with | [_], [], _, _ => rfl
  have F6 : FnG l.prog w K mg base 6 f6 _ ["value"] (sp_is_width K (Ad.mk)) := fn_G l6 c6 s_is_width (tb := tb_is_width K (Ad.mk)) (gcons ⟨f5, _, g5, k5, F5.up (by decide), kcons B5_0 (knil)⟩ (gcons ⟨_, m_MOST_WIDTH, ⟨_, rfl⟩⟩ (gnil))) (c_is_width K (Ad.mk)) (fun vs H Q R z => CW.rd_isWidth vs H Q R z)
  have B6_0 : KB K (PySem.W.fnOf "is_width" "is_width" (defArgs st_is_width) (defBody st_is_width) (defScope st_is_width) .none kV6 dc6 pm6 an6 cd6 ct6) ["value"] 1 [] [.p 0] := kb_of rfl fun us ws h1 h2 => match us, ws, h1, h2 with | [_], [], _, _ => rfl
  have F7 : FnG l.prog w K mg base 7 f7 _ ["width"] (sp_want_width K (Ad.mk)) := fn_G l7 c7 s_want_width (tb := tb_want_width K (Ad.mk)) (gcons ⟨f6, _, g6, k6, F6.up (by decide), kcons B6_0 (knil)⟩ (gnil)) (c_want_width K (Ad.mk)) (fun vs H Q R z => CW.rd_wantWidth vs H Q R z)
  have B7_0 : KB K (PySem.W.fnOf "want_width" "want_width" (defArgs st_want_width) (defBody st_want_width) (defScope st_want_width) .none kV7 dc7 pm7 an7 cd7 ct7) ["width"] 1 [] [.p 0] := kb_of rfl fun us ws h1 h2 => match us, ws, h1, h2 with | [_], [], _, _ => rfl
  have F8 : FnG l.prog w K mg base 8 f8 _ ["value"] (sp_is_bits K (Ad.mk)) := fn_G l8 c8 s_is_bits (tb := tb_is_bits K (Ad.mk)) (gcons ⟨m_isinstance, by decide +kernel⟩ (gcons ⟨m_str, by decide +kernel, fun b e => by cases e <;> rfl⟩ (gcons ⟨m_all, by decide +kernel⟩ (gnil)))) (c_is_bits K (Ad.mk)) (fun vs H Q R z => CW.rd_isBits vs H Q R z)
  have B8_0 : KB K (PySem.W.fnOf "is_bits" "is_bits" (defArgs st_is_bits) (defBody st_is_bits) (defScope st_is_bits) .none kV8 dc8 pm8 an8 cd8 ct8) ["value"] 1 [] [.p 0] := kb_of rfl fun us ws h1 h2 => match us, ws, h1, h2 with | [_], [], _, _ => rfl
  have F9 : FnG l.prog w K mg base 9 f9 _ ["width", "value"] (sp_is_address K (Ad.mk)) := fn_G l9 c9 s_is_address (tb := tb_is_address K (Ad.mk)) (gcons ⟨f7, _, g7, k7, F7.up (by decide), kcons B7_0 (knil)⟩ (gcons ⟨f8, _, g8, k8, F8.up (by decide), kcons B8_0 (knil)⟩ (gcons ⟨m_len, by decide +kernel⟩ (gnil)))) (c_is_address K (Ad.mk)) (fun vs H Q R z => CW.rd_isAddress vs H Q R z)
  have B9_0 : KB K (PySem.W.fnOf "is_address" "is_address" (defArgs st_is_address) (defBody st_is_address) (defScope st_is_address) .none kV9 dc9 pm9 an9 cd9 ct9) ["width", "value"] 2 [] [.p 0, .p 1] := kb_of rfl fun us ws h1 h2 => match us, ws, h1, h2 with | [_, _], [], _, _ => rfl
  have F10 : FnG l.prog w K mg base 10 f10 _ ["width", "value"] (sp_want_address K (Ad.mk)) := fn_G l10 c10 s_want_address (tb := tb_want_address K (Ad.mk)) (gcons ⟨f9, _, g9, k9, F9.up (by decide), kcons B9_0 (knil)⟩ (gnil)) (c_want_address K (Ad.mk)) (fun vs H Q R z => CW.rd_wantAddress vs H Q R z)
  have B10_0 : KB K (PySem.W.fnOf "want_address" "want_address" (defArgs st_want_address) (defBody st_want_address) (defScope st_want_address) .none kV10 dc10 pm10 an10 cd10 ct10) ["width", "value"] 2 [] [.p 0, .p 1] := kb_of rfl fun us ws h1 h2 => match us, ws, h1, h2 with | [_, _], [], _, _ => rfl
  have F11 : FnG l.prog w K mg base 11 f11 _ ["one", "other"] (sp_begin_alike K (Ad.mk)) := fn_G l11 c11 s_begin_alike (tb := tb_begin_alike K (Ad.mk)) (gcons ⟨m_len, by decide +kernel⟩ (gnil)) (c_begin_alike K (Ad.mk)) (fun vs H Q R z => rd_begin_alike vs H Q R z)
  have B11_0 : KB K (PySem.W.fnOf "begin_alike" "begin_alike" (defArgs st_begin_alike) (defBody st_begin_alike) (defScope st_begin_alike) .none kV11 dc11 pm11 an11 cd11 ct11) ["one", "other"] 2 [] [.p 0, .p 1] := kb_of rfl fun us ws h1 h2 => match us, ws, h1, h2 with | [_, _], [], _, _ => rfl
  have F12 : FnG l.prog w K mg base 12 f12 _ ["begin", "end"] (sp_borders_of K (Ad.mk)) := fn_G l12 c12 s_borders_of (tb := tb_borders_of K (Ad.mk)) (gcons ⟨rfl, m_range⟩ (gcons ⟨m_len, by decide +kernel⟩ (gcons ⟨_, m_DOWN, ⟨_, rfl⟩⟩ (gcons ⟨f11, _, g11, k11, F11.up (by decide), kcons B11_0 (knil)⟩ (gcons ⟨_, m_UP, ⟨_, rfl⟩⟩ (gnil)))))) (c_borders_of K (Ad.mk)) (fun vs H Q R z => rd_borders_of vs H Q R z)
  have B12_0 : KB K (PySem.W.fnOf "borders_of" "borders_of" (defArgs st_borders_of) (defBody st_borders_of) (defScope st_borders_of) .none kV12 dc12 pm12 an12 cd12 ct12) ["begin", "end"] 2 [] [.p 0, .p 1] := kb_of rfl fun us ws h1 h2 => match us, ws, h1, h2 with | [_, _], [], _, _ => rfl
  have F13 : FnG l.prog w K mg base 13 f13 _ ["width", "begin", "end"] (sp_path K (Ad.mk)) := fn_G l13 c13 s_path (tb := tb_path K (Ad.mk)) (gcons ⟨f7, _, g7, k7, F7.up (by decide), kcons B7_0 (knil)⟩ (gcons ⟨f10, _, g10, k10, F10.up (by decide), kcons B10_0 (knil)⟩ (gcons ⟨f12, _, g12, k12, F12.up (by decide), kcons B12_0 (knil)⟩ (gnil)))) (c_path K (Ad.mk)) (fun vs H Q R z => rd_path vs H Q R z)
  have B13_0 : KB K (PySem.W.fnOf "path" "path" (defArgs st_path) (defBody st_path) (defScope st_path) .none kV13 dc13 pm13 an13 cd13 ct13) ["width", "begin", "end"] 0 ["end", "width", "begin"] [.q 1, .q 2, .q 0] := kb_of rfl fun us ws h1 h2 => match us, ws, h1, h2 with | [], [_, _, _], _, _ => rfl
  have B13_1 : KB K (PySem.W.fnOf "path" "path" (defArgs st_path) (defBody st_path) (defScope st_path) .none kV13 dc13 pm13 an13 cd13 ct13) ["width", "begin", "end"] 3 [] [.p 0, .p 1, .p 2] := kb_of rfl fun us ws h1 h2 => match us, ws, h1, h2 with | [_, _, _], [], _, _ => rfl
  have B13_2 : KB K (PySem.W.fnOf "path" "path" (defArgs st_path) (defBody st_path) (defScope st_path) .none kV13 dc13 pm13 an13 cd13 ct13) ["width", "begin", "end"] 0 ["begin", "end", "width"] [.q 2, .q 0, .q 1] := kb_of rfl fun us ws h1 h2 => match us, ws, h1, h2 with | [], [_, _, _], _, _ => rfl
  have F14 : FnG l.prog w K mg base 14 f14 _ ["_law_begun", "_law_to"] (sp__law_path K (Ad.mk)) := fn_G l14 c14 s__law_path (tb := tb__law_path K (Ad.mk)) (gcons ⟨rfl, m_range⟩ (gcons ⟨m_len, by decide +kernel⟩ (gnil))) (c__law_path K (Ad.mk)) (fun vs H Q R z => rd_law_path vs H Q R z)
  have B14_0 : KB K (PySem.W.fnOf "_law_path" "_law_path" (defArgs st__law_path) (defBody st__law_path) (defScope st__law_path) .none kV14 dc14 pm14 an14 cd14 ct14) ["_law_begun", "_law_to"] 2 [] [.p 0, .p 1] := kb_of rfl fun us ws h1 h2 => match us, ws, h1, h2 with | [_, _], [], _, _ => rfl
  have F15 : FnG l.prog w K mg base 15 f15 _ ["one", "other"] (sp_common K (Ad.mk)) := fn_G l15 c15 s_common (tb := tb_common K (Ad.mk)) (gcons ⟨f8, _, g8, k8, F8.up (by decide), kcons B8_0 (knil)⟩ (gcons ⟨m_min, by decide +kernel⟩ (gcons ⟨m_len, by decide +kernel⟩ (gnil)))) (c_common K (Ad.mk)) (fun vs H Q R z => rd_common vs H Q R z)
  have B15_0 : KB K (PySem.W.fnOf "common" "common" (defArgs st_common) (defBody st_common) (defScope st_common) .none kV15 dc15 pm15 an15 cd15 ct15) ["one", "other"] 2 [] [.p 0, .p 1] := kb_of rfl fun us ws h1 h2 => match us, ws, h1, h2 with | [_, _], [], _, _ => rfl
  have F16 : FnG l.prog w K mg base 16 f16 _ ["width", "value"] (sp_is_stretch K (Ad.mk)) := fn_G l16 c16 s_is_stretch (tb := tb_is_stretch K (Ad.mk)) (gcons ⟨f7, _, g7, k7, F7.up (by decide), kcons B7_0 (knil)⟩ (gcons ⟨f8, _, g8, k8, F8.up (by decide), kcons B8_0 (knil)⟩ (gcons ⟨m_len, by decide +kernel⟩ (gnil)))) (c_is_stretch K (Ad.mk)) (fun vs H Q R z => CW.rd_isStretch vs H Q R z)
  have B16_0 : KB K (PySem.W.fnOf "is_stretch" "is_stretch" (defArgs st_is_stretch) (defBody st_is_stretch) (defScope st_is_stretch) .none kV16 dc16 pm16 an16 cd16 ct16) ["width", "value"] 2 [] [.p 0, .p 1] := kb_of rfl fun us ws h1 h2 => match us, ws, h1, h2 with | [_, _], [], _, _ => rfl
  have F17 : FnG l.prog w K mg base 17 f17 _ ["_law_wide", "_law_spot_here", "_law_mate"] (sp__law_pair_right K (Ad.mk)) := fn_G l17 c17 s__law_pair_right (tb := tb__law_pair_right K (Ad.mk)) (gcons ⟨f14, _, g14, k14, F14.up (by decide), kcons B14_0 (knil)⟩ (gcons ⟨f13, _, g13, k13, F13.up (by decide), kcons B13_0 (kcons B13_1 (knil))⟩ (gcons ⟨m_repr, by decide +kernel⟩ (gcons ⟨m_all, by decide +kernel⟩ (gcons ⟨f16, _, g16, k16, F16.up (by decide), kcons B16_0 (knil)⟩ (gcons ⟨m_len, by decide +kernel⟩ (gcons ⟨f15, _, g15, k15, F15.up (by decide), kcons B15_0 (knil)⟩ (gnil)))))))) (c__law_pair_right K (Ad.mk)) (fun vs H Q R z => rd_law_pair_right vs H Q R z)
  have B17_0 : KB K (PySem.W.fnOf "_law_pair_right" "_law_pair_right" (defArgs st__law_pair_right) (defBody st__law_pair_right) (defScope st__law_pair_right) .none kV17 dc17 pm17 an17 cd17 ct17) ["_law_wide", "_law_spot_here", "_law_mate"] 3 [] [.p 0, .p 1, .p 2] := kb_of rfl fun us ws h1 h2 => match us, ws, h1, h2 with | [_, _, _], [], _, _ => rfl
  have F18 : FnG l.prog w K mg base 18 f18 _ ["_law_pot_here"] (sp__law_right K (Ad.mk)) := fn_G l18 c18 s__law_right (tb := tb__law_right K (Ad.mk)) (gcons ⟨f2, _, g2, k2, F2.up (by decide), kcons B2_0 (knil)⟩ (gcons ⟨f3, _, g3, k3, F3.up (by decide), kcons B3_0 (knil)⟩ (gcons ⟨rfl, m_range⟩ (gcons ⟨f4, _, g4, k4, F4.up (by decide), kcons B4_0 (knil)⟩ (gcons ⟨f17, _, g17, k17, F17.up (by decide), kcons B17_0 (knil)⟩ (gcons ⟨f13, _, g13, k13, F13.up (by decide), kcons B13_1 (kcons B13_2 (knil))⟩ (gcons ⟨m_repr, by decide +kernel⟩ (gcons ⟨f14, _, g14, k14, F14.up (by decide), kcons B14_0 (knil)⟩ (gcons ⟨m_len, by decide +kernel⟩ (gnil)))))))))) (c__law_right K (Ad.mk)) (fun vs H Q R z => rd_law_right vs H Q R z)
  have B18_0 : KB K (PySem.W.fnOf "_law_right" "_law_right" (defArgs st__law_right) (defBody st__law_right) (defScope st__law_right) .none kV18 dc18 pm18 an18 cd18 ct18) ["_law_pot_here"] 1 [] [.p 0] := kb_of rfl fun us ws h1 h2 => match us, ws, h1, h2 with | [_], [], _, _ => rfl
  have F19 : FnG l.prog w K mg base 19 f19 _ ["_law_script", "_law_k"] (sp__law_pot K (Ad.mk)) := fn_G l19 c19 s__law_pot (tb := tb__law_pot K (Ad.mk)) (gcons ⟨m_len, by decide +kernel⟩ (gcons ⟨m_abs, by decide +kernel⟩ (gcons ⟨m_int, by decide +kernel, fun b e => by cases e <;> rfl⟩ (gcons ⟨m_max, by decide +kernel⟩ (gnil))))) (c__law_pot K (Ad.mk)) (fun vs H Q R z => CW.rd_pot (by decide) (by decide) (by decide) (by decide) (by decide) (by decide) (by decide) (by decide) vs H Q R z)
  have B19_0 : KB K (PySem.W.fnOf "_law_pot" "_law_pot" (defArgs st__law_pot) (defBody st__law_pot) (defScope st__law_pot) .none kV19 dc19 pm19 an19 cd19 ct19) ["_law_script", "_law_k"] 2 [] [.p 0, .p 1] := kb_of rfl fun us ws h1 h2 => match us, ws, h1, h2 with | [_, _], [], _, _ => rfl
  have F20 : FnG l.prog w K mg base 20 fa _ ["_law_script"] (sp_law K (Ad.mk)) := fn_G l20 c20 s_law (tb := tb_law K (Ad.mk)) (gcons ⟨m_all, by decide +kernel⟩ (gcons ⟨rfl, m_range⟩ (gcons ⟨m_max, by decide +kernel⟩ (gcons ⟨m_min, by decide +kernel⟩ (gcons ⟨m_len, by decide +kernel⟩ (gcons ⟨f18, _, g18, k18, F18.up (by decide), kcons B18_0 (knil)⟩ (gcons ⟨f19, _, g19, k19, F19.up (by decide), kcons B19_0 (knil)⟩ (gnil)))))))) (c_law K (Ad.mk)) (fun vs H Q R z => CW.rd_lawB (c := 4) (by decide) vs H Q R z)
  exact F20

end L34
open PySem PySem.W PyProof.Rows in
set_option maxRecDepth 100000 in
set_option maxHeartbeats 0 in
theorem PySem.Challenge.cw_coverways_k34_whole_paths_holds : PySem.Challenge.rw_coverways_k34_whole_paths.Holds := by
  w_on; o_law; k_head; (case hw => w_witness2)
  k_fill
  refine CW.walk_G (l := PySem.Challenge.rw_coverways_k34_whole_paths) (n := 63) (k := 20) (x := "_law_script") (sp := fun K => L34.sp_law K L34.Ad0) rfl (by decide) rfl ⟨rfl, by decide, by decide⟩ (fun w h Y => PySem.W.kIn_of Y) ?F (fun K H a ns hl _ hS => ⟨a, ns, rfl, hS, hl, fun _ => rfl⟩)
  case F =>
    intro w mg fa h KX G hmg
    refine' L34.all_mk KX G hmg ?a1 ?l1 ?c1 ?k1 ?a2 ?l2 ?c2 ?k2 ?a3 ?l3 ?c3 ?k3 ?a4 ?l4 ?c4 ?k4 ?a5 ?l5 ?c5 ?k5 ?a6 ?l6 ?c6 ?k6 ?a7 ?l7 ?c7 ?k7 ?a8 ?l8 ?c8 ?k8 ?a9 ?l9 ?c9 ?k9 ?a10 ?l10 ?c10 ?k10 ?a11 ?l11 ?c11 ?k11 ?a12 ?l12 ?c12 ?k12 ?a13 ?l13 ?c13 ?k13 ?a14 ?l14 ?c14 ?k14 ?a15 ?l15 ?c15 ?k15 ?a16 ?l16 ?c16 ?k16 ?a17 ?l17 ?c17 ?k17 ?a18 ?l18 ?c18 ?k18 ?a19 ?l19 ?c19 ?k19 ?a20 ?l20 ?c20 ?k20 ?v_DOWN ?v_MOST_WIDTH ?v_UP ?z_abs ?z_all ?z_bool ?z_divmod ?z_int ?z_isinstance ?z_len ?z_max ?z_min ?z_range ?z_repr ?z_str
    (case a1 => k_is); (case l1 => k_is); (case c1 => k_is); (case k1 => k_is); (case a2 => k_is); (case l2 => k_is); (case c2 => k_is); (case k2 => k_is); (case a3 => k_is); (case l3 => k_is); (case c3 => k_is); (case k3 => k_is); (case a4 => k_is); (case l4 => k_is); (case c4 => k_is); (case k4 => k_is); (case a5 => k_is); (case l5 => k_is); (case c5 => k_is); (case k5 => k_is); (case a6 => k_is); (case l6 => k_is); (case c6 => k_is); (case k6 => k_is); (case a7 => k_is); (case l7 => k_is); (case c7 => k_is); (case k7 => k_is); (case a8 => k_is); (case l8 => k_is); (case c8 => k_is); (case k8 => k_is); (case a9 => k_is); (case l9 => k_is); (case c9 => k_is); (case k9 => k_is); (case a10 => k_is); (case l10 => k_is); (case c10 => k_is); (case k10 => k_is); (case a11 => k_is); (case l11 => k_is); (case c11 => k_is); (case k11 => k_is); (case a12 => k_is); (case l12 => k_is); (case c12 => k_is); (case k12 => k_is); (case a13 => k_is); (case l13 => k_is); (case c13 => k_is); (case k13 => k_is); (case a14 => k_is); (case l14 => k_is); (case c14 => k_is); (case k14 => k_is); (case a15 => k_is); (case l15 => k_is); (case c15 => k_is); (case k15 => k_is); (case a16 => k_is); (case l16 => k_is); (case c16 => k_is); (case k16 => k_is); (case a17 => k_is); (case l17 => k_is); (case c17 => k_is); (case k17 => k_is); (case a18 => k_is); (case l18 => k_is); (case c18 => k_is); (case k18 => k_is); (case a19 => k_is); (case l19 => k_is); (case c19 => k_is); (case k19 => k_is); (case a20 => k_is); (case l20 => k_is); (case c20 => k_is); (case k20 => k_is); (case v_DOWN => k_is); (case v_MOST_WIDTH => k_is); (case v_UP => k_is); (case z_abs => k_is); (case z_all => k_is); (case z_bool => k_is); (case z_divmod => k_is); (case z_int => k_is); (case z_isinstance => k_is); (case z_len => k_is); (case z_max => k_is); (case z_min => k_is); (case z_range => k_is); (case z_repr => k_is); (case z_str => k_is)
