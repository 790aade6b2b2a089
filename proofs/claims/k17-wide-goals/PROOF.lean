import PyProof.Rows.All
import Wide.All
import OpenK.AllK
import Wide.FinOn
import HandS.ForMost
import HandS.ForExc
import HandS.CallSlots
import HandS.IsInst
import HandS.Deep
import HandS.More
import HandS.Flow
import HandS.RaiseMore
import HandS.TupAny
import HandS.Style
import HandS.Walk
import HandS.DictComp
import PyProof.Rows.SortShellAny
import HandS.SetFor
import HandS.SortRule
import HandS.Strs
import PyProof.ReprRoads
import PyProof.StrOps2
import KE.GoesEnum
import KE.KCallOwn
import HandS.Property
import HandS.MakeKw
import HandS.OwnEq
import HandS.SortKw
import HandS.ListItems
import HandS.Defaults
import PySem.Challenge.RW_coverways_k17_goals_of_wide_addresses
set_option Elab.async false
set_option linter.all false
set_option maxRecDepth 100000
set_option maxHeartbeats 1000000
set_option maxRecDepth 100000
set_option maxHeartbeats 1000000
/-! # A reader of programs: from a def's text to what must be shown of it, by one proved function -/
namespace CW
open PySem PySem.Spec PyProof.Rows L2

/-! ## 1. The text's small conditions -/
def noStar : Expr → Bool
  | .Starred .. => false
  | _ => true
def isComp : Expr → Bool
  | .ListComp .. => true
  | .SetComp .. => true
  | .DictComp .. => true
  | _ => false
theorem star_cons {e : Expr} {es : List Expr} {env : Env} (h : noStar e = true) : starEach (e :: es) env = (false, eval e env) :: starEach es env := by
  cases e <;> first | rfl | cases h
theorem star_any {env : Env} {pos : Pos} : ∀ {es : List Expr}, es.all noStar = true → (backTo pos (starEach es env)).any (·.1) = false
  | [], _ => rfl
  | e :: es, h => by
    rw [List.all_cons, Bool.and_eq_true] at h
    rw [star_cons h.1]
    show (false || (backTo pos (starEach es env)).any (·.1)) = false
    rw [star_any h.2]; rfl
theorem star_all {env : Env} {pos : Pos} : ∀ {es : List Expr}, es.all noStar = true → (backTo pos (starEach es env)).all (fun x => !x.1) = true
  | [], _ => rfl
  | e :: es, h => by
    rw [List.all_cons, Bool.and_eq_true] at h
    rw [star_cons h.1]
    show (true && (backTo pos (starEach es env)).all (fun x => !x.1)) = true
    rw [star_all h.2]; rfl
theorem swaps_no {e : Expr} {t : Option Expr} {l : Nat} {env : Env} (h : isComp e = false) : swapsWith e t l env = pure false := by
  cases e <;> first | rfl | cases h
theorem base_ok {o : Expr} {nm : Str} {env : Env} (h : (match o with | .Call (.Name _ _) [] [] _ => false | _ => true) = true) : attributeBase o nm env (eval o env) = eval o env := by
  unfold attributeBase
  split
  · cases h
  · rfl
def plainTest : Expr → Bool
  | .UnaryOp .Not _ _ => false
  | .BoolOp .. => false
  | .IfExp .. => false
  | .Compare .. => false
  | _ => true
theorem isTrue_is {e : Expr} {env : Env} (h : plainTest e = true) : ∀ whole, isTrue e env whole = (do let v ← whole; standAt e.pos; holding [v] (truthy v)) := by
  intro whole
  cases e <;> first | rfl | (cases h; done) | skip
  case UnaryOp op a p => cases op <;> first | rfl | cases h
def notSlice : Expr → Bool
  | .Slice .. => false
  | _ => true
theorem ix_plain {b : Expr} (h : notSlice b = true) : PlainIx b := fun o i => by cases b <;> first | rfl | cases h
theorem folded_no {e : Expr} {env : Env} (h : (match e with | .Set .. => false | _ => true) = true) : ∀ x, foldedSetIterable e env x = pure x := fun x => by
  cases e <;> first | rfl | cases h
end CW

namespace CW
open PySem PySem.Spec PyProof.Rows L2
/-! ## 19. sorted(set(texts)) -/
def keyS : Int × Value → Str
  | (_, .str k _) => k
  | _ => Str.empty
def OkS (w : World) (e : Int × Value) : Prop := ∃ k t, e = (hashStr w k, Value.str k t)
/-- a set of texts at a: just those of S; it can be walked -/
structure SetS (w : World) (h : Heap) (a : Addr) (S : Str → Bool) (n : Nat) (o : Obj) (es : Array (Int × Value)) (ep : Nat) (t : SetTable) : Prop where
  obj : h.get? a = some o
  ex : o.ExactSet
  dat : o.data = .set es ep t
  good : ∀ e ∈ es.toList, OkS w e
  nd : (es.toList.map keyS).Nodup
  mem : ∀ k, S k = true ↔ k ∈ es.toList.map keyS
  sz : es.size < scanBound
  fit : t.fits es.size = true
  num : es.size = n
  ris : Ris t.place.toList
  led : w.params.followText "set-order" = true ∨ t.led = true
def SetT (w : World) (h : Heap) (a : Addr) (S : Str → Bool) (n : Nat) : Prop := ∃ o es ep t, SetS w h a S n o es ep t
section
variable {P : Program} {w : World} {h h' : Heap} {a : Addr} {S : Str → Bool} {n : Nat}
theorem SetT.at (R : SetT w h a S n) (k : ∀ o, h.get? a = some o → h'.get? a = some o) : SetT w h' a S n := by
  obtain ⟨o, es, ep, t, R⟩ := R
  exact ⟨o, es, ep, t, { R with obj := k o R.obj }⟩
theorem SetT.congr {S' : Str → Bool} (R : SetT w h a S n) (e : ∀ k, S' k = S k) : SetT w h a S' n := by
  obtain rfl : S' = S := funext e
  exact R
theorem okS_is {e : Int × Value} (g : OkS w e) (k : Str) : (PySem.strKind P w).is k e.2 = true ↔ keyS e = k := by
  obtain ⟨k0, t, rfl⟩ := g
  exact beq_iff_eq (a := k0) (b := k)
theorem okS_elems {l : List (Int × Value)} (g : ∀ e ∈ l, OkS w e) : ElemsOf (PySem.strKind P w) l := fun e he => by
  obtain ⟨k, t, rfl⟩ := g e he
  exact ⟨⟨k, strKind_is P w k t, rfl⟩, rfl⟩
theorem okS_mem {l : List (Int × Value)} (g : ∀ e ∈ l, OkS w e) (k : Str) : k ∈ l.map keyS ↔ ∃ e ∈ l, (PySem.strKind P w).is k e.2 = true := by
  simp only [List.mem_map]
  exact ⟨fun ⟨e, he, q⟩ => ⟨e, he, (okS_is (g e he) k).mpr q⟩, fun ⟨e, he, q⟩ => ⟨e, he, (okS_is (P := P) (g e he) k).mp q⟩⟩
end
section
variable {P : Program} {w : World} {A : Around} {E : Value → Shared → Prop} {s : Shared} {a : Addr} {S : Str → Bool} {n : Nat}
theorem setT_tail {g : Bool → Sem Unit} (hg : ∀ b s₁ (Q' : Unit → Shared → Prop), Q' () s₁ → wpAny (model P w) A (g b) Q' E s₁) {o : Obj} {es es1 : Array (Int × Value)} {ep : Nat} {t t2 : SetTable} {S' : Str → Bool}
    (ho : s.heap.get? a = some o) (hex : o.ExactSet) (hd : o.data = .set es ep t) (g1 : ∀ e ∈ es1.toList, OkS w e) (nd1 : (es1.toList.map keyS).Nodup) (m1 : ∀ k, S' k = true ↔ k ∈ es1.toList.map keyS)
    (hb1 : es1.size < scanBound) (hf2 : t2.fits es1.size = true) (hr : Ris t2.place.toList) (hl : w.params.followText "set-order" = true ∨ t2.led = true) {was : Bool} {R : Option Bool → Shared → Prop}
    (hR : ∀ h', Heap.SameBut a s.heap h' → SetT w h' a S' es1.size → R (some true) { s with heap := h' }) :
    wpAny (model P w) A (do
      storeSet a es1 t2
      if (!was && t2.tooFull) = true then do
        g (relayAll t2 es1 (SetTable.grown es1.size)).2.2
        storeSet a (relayAll t2 es1 (SetTable.grown es1.size)).1 (relayAll t2 es1 (SetTable.grown es1.size)).2.1
        pure (some true)
      else pure (some true)) R E s := by
  refine wpAny_bind (wpAny_storeSet_of ho hd ?_ (fits_of_scanBound hb1))
  have o1 := store_at (es' := es1) (t' := t2) ho hd
  have b1 := Heap.SameBut.update s.heap a (Obj.putSet es1 t2)
  split
  · have pm := relayAll_perm t2 es1 (SetTable.grown es1.size)
    have f3 := relayAll_fits t2 es1 (SetTable.grown es1.size)
    have r3 := relayAll_ris t2 es1 (SetTable.grown es1.size)
    have l3 := relayAll_led t2 es1 (SetTable.grown es1.size)
    generalize relayAll t2 es1 (SetTable.grown es1.size) = Z at pm f3 r3 l3 ⊢
    obtain ⟨es2, t3, gave⟩ := Z
    dsimp only at pm f3 r3 l3 ⊢
    have z2 : es2.size = es1.size := by simpa using pm.length_eq
    refine wpAny_bind (hg _ _ _ (wpAny_bind (wpAny_storeSet_of o1 rfl (wpAny_pure (hR _ (b1.trans (Heap.SameBut.update _ a _)) ?_)) (fits_of_scanBound (by omega)))))
    have o2 := store_at (es' := es2) (t' := t3) o1 rfl
    exact ⟨_, es2, _, t3, ⟨o2, hex, rfl, fun e he => g1 e (pm.mem_iff.mp he), (pm.map keyS).nodup_iff.mpr nd1, fun k => (m1 k).trans (pm.map keyS).mem_iff.symm, by omega, f3, z2, r3, hl.imp id fun z => l3.trans z⟩⟩
  · exact wpAny_pure (hR _ b1 ⟨_, es1, _, t2, { obj := o1, ex := hex, dat := rfl, good := g1, nd := nd1, mem := m1, sz := hb1, fit := hf2, num := rfl, ris := hr, led := hl }⟩)
theorem setT_add {k : Str} {tk : Tok} {Q : Bool → Shared → Prop} (R : SetT w s.heap a S n) (room : n + 1 < scanBound)
    (hQ : ∀ h', Heap.SameBut a s.heap h' → SetT w h' a (fun j => S j || decide (j = k)) (if S k = true then n else n + 1) → Q (!S k) { s with heap := h' }) :
    wpAny (model P w) A (setAddHashed a (.str k tk) ((PySem.strKind P w).hash k)) Q E s := by
  obtain ⟨o, es, ep, t, R⟩ := R
  have hkey : (PySem.strKind P w).is k (.str k tk) = true := strKind_is P w k tk
  have hsc : (Value.str k tk).scannable = true := rfl
  have hel : ElemsOf (PySem.strKind P w) es.toList := okS_elems R.good
  unfold setAddHashed setAddHashedIn
  refine wpAny_holding (wpAny_bind (wpAny_setState_of R.obj R.dat R.fit ?_))
  dsimp only
  rw [byScan_of hsc R.sz hel]
  simp only [↓reduceIte]
  unfold setAddByScan
  refine wpAny_bind (wpAny_bind (wpAny_rule (wpAny_bind (wpAny_setScan_of hkey R.obj R.dat R.fit hel ?_))))
  cases hfi : List.findIdx? (fun e => (PySem.strKind P w).is k e.2) es.toList with
  | some j =>
    obtain ⟨hj, pj, _⟩ := List.findIdx?_eq_some_iff_getElem.mp hfi
    have hSk : S k = true := (R.mem k).2 ((okS_mem (P := P) R.good k).2 ⟨es.toList[j], List.getElem_mem hj, pj⟩)
    have q := hQ s.heap (Heap.SameBut.refl a s.heap) ⟨o, es, ep, t, { R with mem := fun i => by rw [Bool.or_eq_true, decide_eq_true_eq, ← R.mem i]; exact ⟨fun z => z.elim id (fun e => e ▸ hSk), .inl⟩, num := by rw [if_pos hSk]; exact R.num }⟩
    rw [hSk] at q
    exact wpAny_pure (wpAny_pure q)
  | none =>
    dsimp only
    have hnk : k ∉ es.toList.map keyS := fun z => by
      obtain ⟨e, he, q⟩ := (okS_mem (P := P) R.good k).1 z
      exact nomatch (List.findIdx?_eq_none_iff.mp hfi e he).symm.trans q
    have hSk : S k = false := (Bool.not_eq_true _).mp fun q => hnk ((R.mem k).1 q)
    have hgw : ∀ (b : Bool) {s₁ : Shared} {Q' : Unit → Shared → Prop}, Q' () s₁ → wpAny (model P w) A (match b with | true => rule "set.scan.the-table-gave-way" | false => pure ()) Q' E s₁ := fun b s₁ Q' q => by cases b <;> first | exact wpAny_pure q | exact wpAny_rule q
    have pm := layNew_perm t es ((PySem.strKind P w).hash k) (.str k tk)
    have f1 := layNew_fits t es ((PySem.strKind P w).hash k) (.str k tk)
    have r1 := layNew_ris t es ((PySem.strKind P w).hash k) (.str k tk) R.ris
    have l1 := layNew_led t es ((PySem.strKind P w).hash k) (.str k tk)
    generalize layNew t es ((PySem.strKind P w).hash k) (.str k tk) = Z at pm f1 r1 l1 ⊢
    obtain ⟨es1, t1, was, gave⟩ := Z
    dsimp only at pm f1 r1 l1 ⊢
    have pc : es1.toList.Perm ((hashStr w k, Value.str k tk) :: es.toList) := by
      rw [Array.toList_push] at pm
      exact pm.trans (List.perm_append_singleton _ _)
    have pk : (es1.toList.map keyS).Perm (k :: es.toList.map keyS) := pc.map keyS
    have g1 : ∀ e ∈ es1.toList, OkS w e := fun e he => (List.mem_cons.mp (pc.mem_iff.mp he)).elim (fun z => ⟨k, tk, z⟩) (R.good e)
    have nd1 : (es1.toList.map keyS).Nodup := pk.nodup_iff.mpr (List.nodup_cons.mpr ⟨hnk, R.nd⟩)
    have m1 : ∀ i, (S i || decide (i = k)) = true ↔ i ∈ es1.toList.map keyS := fun i => by
      rw [Bool.or_eq_true, decide_eq_true_eq, R.mem i, pk.mem_iff, List.mem_cons]
      exact Or.comm
    have z1 : es1.size = n + 1 := by have := pc.length_eq; have := R.num; simp at *; omega
    have b1 : es1.size < scanBound := by omega
    have led1 : w.params.followText "set-order" = true ∨ t1.led = true := R.led.imp id fun z => l1.trans z
    have fin : ∀ h', Heap.SameBut a s.heap h' → SetT w h' a (fun j => S j || decide (j = k)) es1.size → Q true { s with heap := h' } := fun h' sb r => by
      have q := hQ h' sb
      rw [hSk] at q
      rw [z1] at r
      exact q r
    refine wpAny_bind (hgw _ ?_)
    split
    · refine wpAny_bind ?_
      rw [hashByValue_scannable 8 hsc]
      refine wpAny_pure (setT_tail ?_ R.obj R.ex R.dat g1 nd1 m1 b1 ?_ ?_ ?_ ?_)
      · intro b s₁ Q' q; cases b <;> first | exact wpAny_pure q | exact wpAny_rule q
      · first | (split <;> first | exact f1 | exact SetTable.fits_plain_off f1) | exact f1
      · first | (split <;> exact r1) | exact r1
      · first | (split <;> exact led1) | exact led1
      · intro h' sb r; dsimp only; exact wpAny_pure (fin h' sb r)
    · refine wpAny_bind (wpAny_pure ?_)
      simp only [↓reduceIte]
      refine setT_tail ?_ R.obj R.ex R.dat g1 nd1 m1 b1 f1 r1 led1 ?_
      · intro b s₁ Q' q; cases b <;> first | exact wpAny_pure q | exact wpAny_rule q
      · intro h' sb r; dsimp only; exact wpAny_pure (fin h' sb r)
theorem strs_get : ∀ {us : List Value} {xs : List Str}, StrsAre us xs → ∀ (i : Nat) (v : Value), us[i]? = some v → ∃ k t, xs[i]? = some k ∧ v = .str k t
  | _, _, .nil, i, v, h => by simp at h
  | _, _, .cons n t hr, 0, v, h => ⟨n, t, rfl, (Option.some.inj h).symm⟩
  | _, _, .cons n t hr, i + 1, v, h => strs_get hr i v h
/-- the loop of set(..) over what gives the texts xs -/
theorem setT_loop {I : Addr} {fp wr : List Addr} {G : Array GenState → Array GenState → Prop} {n : Nat} {Pv : Nat → Value → Prop} {St : Nat → Shared → Prop} {R : Result → Shared → Prop}
    (W : WalksS P w A.in1 I fp wr G n Pv St) (Z : Addr) (hZ : Z ∉ fp) (xs : List Str) (hn : n = xs.length) (hb : xs.length + 1 < scanBound) (hval : ∀ i v, Pv i v → ∃ k t, xs[i]? = some k ∧ v = .str k t) :
    ∀ (m i : Nat) (s : Shared), n - i = m → i ≤ n → St i s → (∃ c, c ≤ i ∧ SetT w s.heap Z (fun j => decide (j ∈ xs.take i)) c) →
      (∀ s' c, Moved (Z :: wr) G s s' → c ≤ n → SetT w s'.heap Z (fun j => decide (j ∈ xs)) c → R (.ok (.ret .none)) s') → codeAny (model P w) A (.builtin "set.update.loop" ⟨[.ref Z, .ref I], []⟩) R s := by
  have nw : Z ∉ wr := fun h => hZ (W.sub _ h)
  have up : ∀ b ∈ wr, b ∈ Z :: wr := fun b hb => List.mem_cons_of_mem _ hb
  intro m
  induction m with
  | zero =>
    rintro i s e0 hi hst ⟨c, hc, hS⟩ hR
    obtain rfl : i = n := by omega
    refine codeAny_builtin PyProof.Rows.F.entry_set_update_loop ?_
    rw [Around.under_plainId PyProof.Rows.F.plain_set_update_loop _]
    refine wpAny_bind (W.done s _ _ hst fun s' hm => ?_)
    rw [List.take_of_length_le (by omega)] at hS
    exact wpAny_pure (hR s' c (hm.mono up) hc (hS.at fun o e => hm.heap Z o nw e))
  | succ m ih =>
    rintro i s e0 hi hst ⟨c, hc, hS⟩ hR
    have hlt : i < n := by omega
    refine codeAny_builtin PyProof.Rows.F.entry_set_update_loop ?_
    rw [Around.under_plainId PyProof.Rows.F.plain_set_update_loop _]
    refine wpAny_bind (W.item i s _ _ hlt hst fun v s' hP hst' hm => ?_)
    obtain ⟨z, t, hz, rfl⟩ := hval i v hP
    have hS' : SetT w s'.heap Z (fun j => decide (j ∈ xs.take i)) c := hS.at fun o e => hm.heap Z o nw e
    show wpAny _ A.in1 (holding [Value.str z t] (setAdd Z (.str z t)) >>= _) _ _ s'
    refine wpAny_bind (wpAny_holding ?_)
    unfold setAdd
    refine wpAny_holding (wpAny_bind ((PySem.strKind P w).pyHash (k := z) (strKind_is _ _ _ _) ?_))
    refine setT_add (s := { s' with toks := s'.toks + 1 }) hS' (by omega) fun h' hsb hS2 => ?_
    have hS3 : SetT w h' Z (fun j => decide (j ∈ xs.take (i + 1))) (if decide (z ∈ xs.take i) = true then c else c + 1) := hS2.congr fun j => by
      rw [List.take_add_one, hz]; simp [List.mem_append]
    refine wpAny_pure ⟨plainId_quiet PyProof.Rows.F.plain_set_update_loop _, ih (i + 1) _ (by omega) hlt (W.frame _ s' _ _ hst' (Nat.le_succ _) fun b hb o e => ?_) ⟨_, by split <;> omega, hS3⟩ fun s2 c2 hm2 hc2 hs2 => ?_⟩
    · rw [hsb.2 b (fun q : b = Z => hZ (q ▸ hb))]; exact e
    · refine hR s2 c2 (Moved.trans W.gtrans ((hm.mono up).then_heap (Nat.le_succ _) fun b o hb e => ?_) hm2) hc2 hs2
      rw [hsb.2 b (fun q : b = Z => hb (q ▸ List.mem_cons_self))]; exact e
theorem setT_none {h : Heap} {xs : List Str} (ho : h.get? a = some { cls := .type "set", dict := none, data := .set #[] 0 (.fresh 0 0 (!w.params.followText "set-order")) }) : SetT w h a (fun j => decide (j ∈ xs.take 0)) 0 := by
  have led : w.params.followText "set-order" = true ∨ (!w.params.followText "set-order") = true := by cases w.params.followText "set-order" <;> simp
  exact ⟨_, #[], 0, _, ⟨ho, ⟨rfl, rfl, rfl⟩, rfl, fun e he => by simp at he, by simp, fun k => by simp, by decide, rfl, rfl, List.Pairwise.nil, led⟩⟩

set_option maxRecDepth 100000 in
set_option maxHeartbeats 3200000 in
/-- set(l) of a list of texts -/
theorem call_setT {l : Addr} {items : Array Value} (xs : List Str) {Q : Value → Shared → Prop} (hh : A.handled = none) (hl : s.heap.IsList l items) (hit : StrsAre items.toList xs) (hb : xs.length + 1 < scanBound)
    (h : ∀ (h' : Heap) (tk c : Nat), SetT w h' s.heap.objs.size (fun j => decide (j ∈ xs)) c → c ≤ xs.length → (∀ b o, s.heap.get? b = some o → h'.get? b = some o) → Q (.ref s.heap.objs.size) { s with heap := h', toks := tk }) :
    wpAny (model P w) A (call (.type "set") [.ref l]) Q E s := by
  have hisz : items.size = xs.length := by rw [← StrsAre.len_eq hit, Array.length_toList]
  obtain ⟨c, tl, hmro⟩ := PySem.F.called_set.mro
  have hmade := PySem.F.called_set.made
  have hsub := PySem.F.called_set.sub
  refine wpAny_call (codeAny_of_tree ?_)
  show wpAny _ _ (callAny (.type "set") _) _ _ _
  refine wpAny_pure ⟨Code.quiet_builtin _ (by decide +kernel), codeAny_builtin PySem.F.entry_type_call ?_⟩
  rw [Around.under_plain (weight_type_call_type "set" [.ref l] []) rfl]
  have h1 := PySem.F.called_set.notType
  have h2 := PySem.F.called_set.canCreate
  have hct := PySem.F.typeCall_set_1 (.ref l)
  repeat (any_goals (first | assumption | wp_step))
  refine codeAny_mono (code_set_led1 (.ref l) (E := E) (Q₁ := fun obj s₁ => obj = .ref s.heap.objs.size ∧ s₁ = { s with heap := s.heap.push { cls := .type "set", dict := none, data := .set #[] 0 (.fresh 0 0 (!w.params.followText "set-order")) } }) ⟨rfl, rfl⟩) fun r s₁ hr => ?_
  cases r with
  | error e => exact hr
  | ok fl =>
    cases fl with
    | ret obj =>
      obtain ⟨rfl, rfl⟩ := hr
      have hS : (s.heap.push { cls := .type "set", dict := none, data := .set #[] 0 (.fresh 0 0 (!w.params.followText "set-order")) }).get? s.heap.objs.size = some { cls := .type "set", dict := none, data := .set #[] 0 (.fresh 0 0 (!w.params.followText "set-order")) } := Heap.get?_push_size _ rfl
      have hT : Shared.TypeIs { s with heap := s.heap.push { cls := .type "set", dict := none, data := .set #[] 0 (.fresh 0 0 (!w.params.followText "set-order")) } } (.ref s.heap.objs.size) "set" := ⟨_, hS, rfl⟩
      have hli := PySem.F.called_set.init.lookup
      have hbi := PySem.F.called_set.init.bind (.ref s.heap.objs.size)
      repeat (any_goals (first | assumption | wp_step))
      refine codeAny_mono (codeAny_call_builtin (R := wants (fun r s₂ => r = .none ∧ ∃ h' tk c, s₂ = { s with heap := h', toks := tk } ∧ SetT w h' s.heap.objs.size (fun j => decide (j ∈ xs)) c ∧ c ≤ xs.length ∧
          (∀ b o, s.heap.get? b = some o → h'.get? b = some o)) E) PySem.F.called_set.init.plain PySem.F.entry_set_init (check_set_init_1 hT ?_)) fun r₂ s₂ hr₂ => ?_
      · obtain ⟨ol, hol, hcl, nl, hdl⟩ := hl
        obtain ⟨ocls, odict, odata, oslots⟩ := ol
        simp only at hcl hdl
        subst hcl; subst hdl
        have hol' : (s.heap.push { cls := .type "set", dict := none, data := .set #[] 0 (.fresh 0 0 (!w.params.followText "set-order")) }).get? l = some { cls := .type "list", dict := odict, data := .seq items nl, slots := oslots } := Heap.get?_push_of_some _ hol
        have hsls := PySem.F.sub_list_set
        have hslf := PySem.F.sub_list_frozenset
        have hne : (Value.type "list" == Value.type "dict") = false := by decide
        have hl1 : (s.heap.push { cls := .type "set", dict := none, data := .set #[] 0 (.fresh 0 0 (!w.params.followText "set-order")) }).IsList l items := ⟨_, hol', rfl, nl, rfl⟩
        unfold Builtin.«set.__init__» noKeywords Builtin.Frozenset.updateFrom
        generalize hPI : pyIter = PI
        wp_walk
        subst hPI
        refine wpAny_pyIter_list hl1 ?_
        refine wpAny_bind (wpAny_runValue ?_)
        have hlS : l < s.heap.objs.size := Heap.lt_size hol
        have hh3 : A.in1.in1.in1.handled = none := by simp [hh]
        have hneI : l ≠ (s.heap.push { cls := .type "set", dict := none, data := .set #[] 0 (.fresh 0 0 (!w.params.followText "set-order")) }).objs.size := by rw [Heap.size_push]; exact Nat.ne_of_lt (Nat.lt_succ_of_lt hlS)
        have hSf : s.heap.objs.size ∉ [(s.heap.push { cls := .type "set", dict := none, data := .set #[] 0 (.fresh 0 0 (!w.params.followText "set-order")) }).objs.size, l] := by
          rw [Heap.size_push]; simp only [List.mem_cons, List.not_mem_nil, or_false, not_or]; exact ⟨Nat.ne_of_lt (Nat.lt_succ_self _), Nat.ne_of_gt hlS⟩
        have hval : ∀ (i : Nat) (v : Value), items[i]? = some v → ∃ k t, xs[i]? = some k ∧ v = .str k t := fun i v hv => by
          exact strs_get hit i v (by rw [Array.getElem?_toList]; exact hv)
        refine setT_loop ((Walks.list hh3 _ l hneI items).toS) s.heap.objs.size hSf xs hisz hb hval (items.size - 0) 0 _ (by omega) (Nat.zero_le _) ⟨⟨_, Heap.get?_push_size _ rfl, rfl, rfl⟩, (hl1.push _)⟩ ⟨0, Nat.le_refl 0, ?_⟩ ?_
        · exact setT_none (Heap.get?_push_of_some _ hS)
        · intro s' c' hm hc' hS'
          obtain ⟨h', g2, d', tk', os'⟩ := s'
          obtain rfl : g2 = s.gens := hm.gens
          obtain rfl : d' = s.drawn := hm.drawn
          obtain rfl : os' = s.os := hm.os
          refine wpAny_pure (wpAny_pure ⟨rfl, h', tk', c', rfl, hS', by omega, fun b o e => ?_⟩)
          have hb0 : b < s.heap.objs.size := Heap.lt_size e
          refine hm.heap b o ?_ (Heap.get?_push_of_some _ (Heap.get?_push_of_some _ e))
          rw [Heap.size_push]; simp only [List.mem_cons, List.not_mem_nil, or_false, not_or]; exact ⟨Nat.ne_of_lt hb0, Nat.ne_of_lt (Nat.lt_succ_of_lt hb0)⟩
      · cases r₂ with
        | error e => exact hr₂
        | ok fl₂ =>
          cases fl₂ with
          | ret r =>
            obtain ⟨rfl, h', tk, c', rfl, hS', hc', hk'⟩ := hr₂
            repeat (any_goals (first | assumption | wp_step))
            exact h _ _ _ hS' hc' hk'
          | _ => exact hr₂.elim
    | _ => exact hr.elim

theorem strs_keys : ∀ l : List Value, (∀ v ∈ l, ∃ k t, v = Value.str k t) → StrsAre l (l.map fun v => keyS (0, v))
  | [], _ => .nil
  | v :: l, h => by
    obtain ⟨k, t, rfl⟩ := h v List.mem_cons_self
    exact .cons k t (strs_keys l fun u hu => h u (List.mem_cons_of_mem _ hu))
/-- sorted(s) of a set of texts, any number of them -/
theorem sorted_setT {Q : Value → Shared → Prop} (R : SetT w s.heap a S n) (hh : A.handled = none)
    (hQ : ∀ s' p (out : Array Value) (c : Nat) (ys : List Str), (∀ b o, s.heap.get? b = some o → s'.heap.get? b = some o) → s'.gens = s.gens → s'.os = s.os → s.heap.objs.size ≤ p →
      s'.heap.get? p = some (seqObj "list" out c) → StrsAre out.toList ys → sortedS ys = true → ys.Nodup → (∀ k, k ∈ ys ↔ S k = true) → Q (.ref p) s') :
    wpAny (model P w) A (call (.builtin "sorted") [.ref a]) Q E s := by
  obtain ⟨o, es, ep, t, R⟩ := R
  refine Calls.call_function_entry kind_sorted plain_sorted entry_sorted (args_sorted1 _) ?_
  unfold Builtin.«sorted»
  refine wpAny_bind (m := checkCount "sorted" 1 1 _) (wpAny_pure (wpAny_bind (collect_set (A := A.in1) hh ⟨o, R.obj, R.ex.1, R.dat⟩ R.fit R.sz R.ris R.led fun s1 vs k1 hz g1 o1 pm => ?_)))
  have hS : StrsAre vs (vs.map fun v => keyS (0, v)) := strs_keys vs fun v hv => by
    obtain ⟨e, he, rfl⟩ := List.mem_map.mp (pm.mem_iff.mp hv)
    obtain ⟨k, t, rfl⟩ := R.good e he
    exact ⟨k, t, rfl⟩
  have pk : (vs.map fun v => keyS (0, v)).Perm (es.toList.map keyS) := by
    have q := pm.map fun v => keyS (0, v)
    rw [List.map_map, show ((fun v => keyS (0, v)) ∘ fun x : Int × Value => x.2) = keyS from funext fun ⟨i, v⟩ => by cases v <;> rfl] at q
    exact q
  have hvl : vs.length = es.size := by simpa using pm.length_eq
  have hL : vs.length ≤ sizeLine := by rw [hvl]; exact fits_of_scanBound R.sz
  refine wpAny_bind (wpAny_newList ?_ hL)
  have hoL : (s1.heap.push (seqObj "list" vs.toArray 0)).get? s1.heap.objs.size = some (seqObj "list" vs.toArray 0) := Heap.get?_push_size _ rfl
  refine wpAny_bind (wpAny_holding (wpAny_call_entry slot_list_sort ⟨_, hoL, rfl⟩ entry_list_sort (list_sort_treeKAny strKind_oneLt hoL hS.keysOf (fun v₁ v₂ rest e => keyKind_strs (by rw [← e]; exact hS)) hL fun st' hp hs => ⟨_, rfl, ?_⟩) (args_list_sort _)))
  obtain ⟨ys, a1, a2, a3⟩ := sorted_out_str hS hp hs
  obtain ⟨c, hc⟩ := sortedHeap_at (vs := vs) (out := (arrOf st').map (·.2)) hoL
  have pn : ys.Perm (es.toList.map keyS) := a2.trans pk
  refine wpAny_pure ⟨_, rfl, hQ _ s1.heap.objs.size _ c ys (fun b u e => ?_) g1 o1 hz hc a1 a3 (pn.nodup_iff.mpr R.nd) (fun k => by rw [pn.mem_iff, ← R.mem k])⟩
  have q := k1 b u e
  have hlt := Heap.lt_size q
  show (sortedHeap (s1.heap.push (seqObj "list" vs.toArray 0)) s1.heap.objs.size vs _).get? b = some u
  rw [sortedHeap_old (Nat.ne_of_lt hlt) (by rw [size_push']; exact Nat.lt_succ_of_lt hlt)]
  exact Heap.get?_push_of_some _ q
end
/-- sorted(set(x)), texts -/
def rSortSet (K : PySem.W.Frag) : V → Hp → VK → Prop := fun x H Q => ∃ (l : Addr) (xs : List Str), x = .ref l ∧ SqL K H l (xs.map V.str) ∧ xs.length + 1 < scanBound ∧
  ∀ (ys : List Str) (p : Addr), sortedS ys = true → ys.Nodup → (∀ k, k ∈ ys ↔ k ∈ xs) → H p = none → Q (.ref p) (upd H p (.lst (ys.map V.str)))
end CW

namespace CW
open PySem PySem.Spec PyProof.Rows L2
section
variable {X : Cx}
theorem vals_strs : ∀ {ys : List Str} {us : List Value}, Vals (ys.map V.str) us → StrsAre us ys
  | [], _, .nil => .nil
  | y :: _, _, .cons r t => by
    obtain ⟨k, rfl⟩ := r
    exact .cons y k (vals_strs t)
theorem strs_vals : ∀ {us : List Value} {ys : List Str}, StrsAre us ys → Vals (ys.map V.str) us
  | _, _, .nil => .nil
  | _, _, .cons _ t r => .cons ⟨t, rfl⟩ (strs_vals r)
theorem sub_len : ∀ {ys xs : List Str}, ys.Nodup → (∀ k ∈ ys, k ∈ xs) → ys.length ≤ xs.length
  | [], _, _, _ => Nat.zero_le _
  | y :: ys, xs, hn, h => by
    obtain ⟨h1, h2⟩ := List.nodup_cons.mp hn
    have hy := h y List.mem_cons_self
    have z := sub_len (ys := ys) (xs := xs.erase y) h2 fun k hk => (List.mem_erase_of_ne (fun e : k = y => h1 (by rw [← e]; exact hk))).mpr (h k (List.mem_cons_of_mem _ hk))
    rw [List.length_erase_of_mem hy] at z
    have : 0 < xs.length := List.length_pos_of_mem hy
    rw [List.length_cons]; omega
theorem pe_sortSet {x y : Str} {a : Expr} {ta : TE} {p p2 q pos : Pos} (hc : X.calm = true) (hg : Gl X x) (hm : X.mg x = none) (hv : bootBuiltins x = some (.builtin "sorted")) (hn : x ≠ "__name__") (hd : (x == ("__debug__" : Str)) = false)
    (hg2 : Gl X y) (hm2 : X.mg y = none) (hv2 : bootBuiltins y = some (.type "set")) (hn2 : y ≠ "__name__") (hd2 : (y == ("__debug__" : Str)) = false) (ha : PE X a ta) (na : noStar a = true) :
    PE X (.Call (.Name x p) [.Call (.Name y p2) [a] [] q] [] pos) (fun σ H Q => ta σ H fun x H1 => rSortSet X.K x H1 Q) := by
  refine ⟨fun pins s σ H Q I h => ?_⟩
  refine wpAny_Call_Name_kw (ld_blt I hg hm hv ?_ hn hd)
  refine PyProof.Rows.callWith_builtin1 (PyProof.Rows.args_cons ?_ rfl) rfl rfl
  refine wpAny_Call_Name_kw (ld_blt I hg2 hm2 hv2 ?_ hn2 hd2)
  refine PyProof.Rows.callWith_type1 (PyProof.Rows.args_cons (thn (ha.run pins s σ H _ I h) fun v s1 ⟨x, H1, I1, r1, q1⟩ => PyProof.Rows.args_nil ?_) (star_cons na)) (star_cons na) rfl
  obtain ⟨l, xs, rfl, hq, hb, q1⟩ := q1
  cases r1
  obtain ⟨its, r, pl, hz⟩ := I1.list hq
  refine call_setT xs (I1.ok.hd hc) pl.isList (by simpa using vals_strs r) hb fun h' tk c hS hcn hk => PyProof.Rows.args_nil ?_
  have I2 : Inv X pins σ H1 { s1 with heap := h', toks := tk } := I1.kept hk
  refine sorted_setT (s := { s1 with heap := h', toks := tk }) hS (I1.ok.hd hc) fun s' p' out c' ys k g o hp hg' hi hs hnd hmem => ?_
  have hmem' : ∀ k, k ∈ ys ↔ k ∈ xs := fun k => by rw [hmem k]; exact decide_eq_true_iff
  have hlen : (ys.map V.str).length ≤ sizeLine := by
    have := sub_len hnd fun k hk => (hmem' k).mp hk
    rw [List.length_map, sizeLine_eq]
    have hsb : scanBound = 4096 := rfl
    omega
  have hn : H1 p' = none := I2.hok.fresh hp
  have J : Inv X pins σ (upd H1 p' (.lst (ys.map V.str))) { ({ s1 with heap := h', toks := tk } : Shared) with heap := s'.heap, gens := s'.gens, drawn := s'.drawn, toks := s'.toks } :=
    I2.call (ch := []) (Un.laid k hp hn) (I2.hok.laid k hp ⟨hlen, out.toList, c', strs_vals hi, hg'⟩) (by rw [g]; exact I2.bare) (fun _ z => nomatch z)
  have e : s' = { s1 with heap := s'.heap, gens := s'.gens, drawn := s'.drawn, toks := s'.toks } := by
    cases s'; cases s1; cases o; rfl
  rw [e]
  exact ⟨.ref p', _, J, rfl, q1 ys p' hs hnd hmem' hn⟩
end
end CW

namespace CW
open PySem PySem.Spec PyProof.Rows L2
/-! ## 0c. enumerate over a tuple -/
set_option maxHeartbeats 1000000 in
theorem meets_enumB {v : Value} {o : Obj} {H : Heap → Prop} (B : Begins v o H) :
    Meets (Builtin.«enumerate.__new__» ⟨[.type "enumerate", v], []⟩) (fun _ R s => H s.heap ∧
      R (.ok (.ret (.ref (s.heap.push o).objs.size))) { s with heap := (s.heap.push o).push { cls := .type "enumerate", data := .fields #[.none, .bool false, .ref s.heap.objs.size, rawInt 0, .none, .none] } }) :=
  .of_wp fun prog w A R s h => by
    obtain ⟨hp, g, d, tk, os⟩ := s; obtain ⟨h1, h⟩ := h
    have hsub := sub_enumerate
    have q1 : ∀ {A' : Around} {E : Value → Shared → Prop} {Q : Value → Shared → Prop}, Q (.ref hp.objs.size) ⟨hp.push o, g, d, tk, os⟩ → wpAny (model prog w) A' (pyIter v) Q E ⟨hp, g, d, tk, os⟩ :=
      fun q => B.iter prog w _ _ ⟨hp, g, d, tk, os⟩ _ h1 q
    wp_walk using q1
    refine wpAny_stack_any fun st => wpAny_pure ?_
    split
    · rename_i c _ _ _ _ _
      cases (c == Value.type "enumerate")
      · wp_walk using q1
        exact ⟨_, rfl, h⟩
      · wp_walk using q1
        exact ⟨_, rfl, h⟩
    · wp_walk using q1
      exact ⟨_, rfl, h⟩
theorem call_enumB {prog : Program} {w : World} {A : Around} {E : Value → Shared → Prop} {s : Shared} {v : Value} {o : Obj} {H : Heap → Prop} {Q : Value → Shared → Prop} (B : Begins v o H) (h1 : H s.heap)
    (h : ∀ h', IsEnum h' (s.heap.objs.size + 1) s.heap.objs.size 0 .none → h'.get? s.heap.objs.size = some o → h'.objs.size = s.heap.objs.size + 2 →
      (∀ b o, s.heap.get? b = some o → h'.get? b = some o) → Q (.ref (s.heap.objs.size + 1)) { s with heap := h' }) :
    wpAny (model prog w) A (call (.type "enumerate") [v]) Q E s := by
  refine callType_new F.called_enumerate (by decide) (F.typeCall_enumerate_1 _) (F.newCall_enumerate_1 _) (fun obj => F.args_object_init_2 obj _) F.entry_enumerate_new
    (meets_enumB B) ⟨h1, ?_⟩
  have hz : (s.heap.push o).objs.size = s.heap.objs.size + 1 := Heap.size_push ..
  show _ ∧ _
  rw [hz]
  have he : IsEnum ((s.heap.push o).push { cls := .type "enumerate", data := .fields #[.none, .bool false, .ref s.heap.objs.size, rawInt 0, .none, .none] }) (s.heap.objs.size + 1) s.heap.objs.size 0 .none := by
    have := Heap.get?_push_size (s.heap.push o) (o := { cls := .type "enumerate", data := .fields #[.none, .bool false, .ref s.heap.objs.size, rawInt 0, .none, .none] }) rfl
    rw [hz] at this; exact this
  refine ⟨⟨_, he, rfl⟩, h _ he (Heap.get?_push_of_some _ (Heap.get?_push_size _ B.free)) (by rw [Heap.size_push, hz]) fun b o x => Heap.get?_push_of_some _ (Heap.get?_push_of_some _ x)⟩
def IteT (K : PySem.W.Frag) (a : Addr) : It :=
  ⟨fun i H => ∃ (xs : List V) (x : V), SqT K H a xs ∧ xs[i]? = some x, fun i H v H' => ∃ T x, v = .ref T ∧ H T = none ∧ H' = upd H T (.tup [.int (i : Nat), x]) ∧ ∀ xs, SqT K H a xs → xs[i]? = some x, fun i H => ∃ xs : List V, SqT K H a xs ∧ xs.length ≤ i⟩
theorem turn_enumT {P : Program} {w : World} {K : PySem.W.Frag} {elts : List Expr} {kk : Nat} {tpos : Pos} (a e it : Addr) (hai : a ≠ it) (hae : a ≠ e) :
    Turn P w K (.Tuple elts kk tpos) (IteT K a) [e, it] e (fun i h => (∃ old, IsEnum h e it ((i : Nat) : Int) old) ∧ h.IsTupleIter it a i ∧ e ≠ it) where
  mem := by simp
  obj := fun i h st b hb => by
    obtain ⟨⟨old, he⟩, ⟨o, ho, hc, hd⟩, _⟩ := st
    have e' : b = e ∨ b = it := by simpa using hb
    rcases e' with z | z
    · rw [z]; exact ⟨_, he, fun v q => nomatch q⟩
    · rw [z]; exact ⟨o, ho, fun v q => by rw [hd] at q; cases q⟩
  keep := fun i h h' st k => let ⟨⟨old, he⟩, hi, hne⟩ := st; ⟨⟨old, k e (by simp) _ he⟩, hi.at fun o q => k it (by simp) o q, hne⟩
  item := by
    intro X hP hw hK hc i pins s σ H E I hf st hg
    subst hP hw hK
    obtain ⟨⟨old, he⟩, hit, hne⟩ := st
    obtain ⟨xs, x, hq, hx⟩ := hg
    obtain ⟨its, rv, p, hz⟩ := I.tuple hq
    obtain ⟨u, hu, ru⟩ := rv.get hx
    have hel : e < s.heap.objs.size := Heap.lt_size he
    have hil : it < s.heap.objs.size := by obtain ⟨_, q, _⟩ := hit; exact Heap.lt_size q
    have hlt : i < its.toArray.size := by
      have : i < its.length := (List.getElem?_eq_some_iff.mp hu).1
      simpa using this
    have D := Draws.tuple (prog := X.prog) (w := X.w) (A := X.A.in1) (I.ok.hd hc) it a hai its.toArray
    refine wpAny_pyNext_enum_itemD D he ⟨hit, show s.heap.IsTuple a its.toArray from p⟩ hlt hne (by simp [hne, Ne.symm hae]) fun x' h' tk hx' ho hst' hT hsz hk => ?_
    obtain rfl : u = x' := by
      have q1 : its.toArray[i]? = some u := by simpa using hu
      exact Option.some.inj (q1.symm.trans hx')
    have hit' := hst'.1
    refine ⟨_, rfl, wpAny_letOwnedTupleGo_enum (s := { s with heap := h', toks := tk + 1 }) ho fun h'' he' sb => ?_⟩
    have hT2 : h''.get? s.heap.objs.size = some { cls := .type "tuple", data := .seq #[.int i tk, u] } := (sb.2 _ (Nat.ne_of_gt hel)).trans hT
    have new : ObjOk X.prog X.w (upd H s.heap.objs.size (.tup [.int (i : Nat), x])) h'' s.heap.objs.size (.tup [.int (i : Nat), x]) :=
      ⟨by show 2 ≤ sizeLine; decide, [.int i tk, u], .cons ⟨_, rfl⟩ (.cons ru .nil), ⟨_, hT2, rfl, _, rfl⟩⟩
    have I1 : Inv X pins σ (upd H s.heap.objs.size (.tup [.int (i : Nat), x])) { s with heap := h'', toks := tk + 1 } :=
      I.turnedNew (ch := [e, it]) (fun b ob hb q => (sb.2 b (fun z => hb (by simp [z]))).trans (hk b ob (fun z => hb (by simp [z])) (fun z => hb (by simp [z])) q)) hf (Nat.le_refl _) new
    refine ⟨.ref s.heap.objs.size, _, I1, rfl, ⟨_, x, rfl, I.hok.fresh (Nat.le_refl _), rfl, fun ys hy => by rw [I.tuple_inj hy hq]; exact hx⟩, ⟨⟨u, ?_⟩, hit'.at fun o q => (sb.2 it (Ne.symm hne)).trans q, hne⟩, fun b hb => ?_⟩
    · have e1 : ((i + 1 : Nat) : Int) = (i : Int) + 1 := by omega
      rw [e1]; exact he'
    · have hb' : b < s.heap.objs.size := by
        have e' : b = e ∨ b = it := by simpa using hb
        rcases e' with z | z
        · rw [z]; exact hel
        · rw [z]; exact hil
      rw [upd_ne (Nat.ne_of_lt hb')]
      exact (hf b hb).1
  done := by
    intro X hP hw hK hc i pins s σ H E I hf st hg
    subst hP hw hK
    obtain ⟨⟨old, he⟩, hit, hne⟩ := st
    obtain ⟨xs, hq, hx⟩ := hg
    obtain ⟨its, rv, p, hz⟩ := I.tuple hq
    obtain ⟨f0, f1, f2, f3, f4, f5⟩ := hf it (by simp)
    have hl := rv.length
    have hT : s.TypeIs (.ref e) "enumerate" := ⟨_, he, rfl⟩
    unfold pyNext
    refine wpAny_bind (wpAny_attempt (wpAny_callSpecial?_slot (name := Str.ofString "__next__") hT F.slot_enumerate_next
      (wpAny_call_entry F.slot_enumerate_next hT F.entry_enumerate_next ?_ (F.args_enumerate_next_1 _))))
    show wpAny _ _ (field (.ref e) 2 >>= _) _ _ _
    refine wpAny_bind (wpAny_field he rfl (x := .ref it) rfl ?_)
    refine wpAny_bind (wpAny_nextOf_tuple_end (I.ok.hd hc) hit (show s.heap.IsTuple a its.toArray from p) (by simp; omega) fun h' x he' hx' => ?_)
    obtain ⟨o, ho, hc⟩ := hx'
    refine wpAny_bind (wpAny_isInstance (T := "StopIteration") (b := true) ⟨o, ho, hc⟩ isSubtype_stop ?_)
    exact wpAny_pure ⟨rfl, I.turned (t' := s.toks) (fun b o hb q => he' b o hb q) f0 f1 f3 f4 f5⟩
  self := fun A i s Q E st h => let ⟨⟨_, he⟩, _⟩ := st; wpAny_pyIter_enum he h
/-- enumerate of a list or a tuple -/
def iEnumV (K : PySem.W.Frag) (x : V) (H : Hp) (R : It → Hp → Prop) : Prop := match x with
  | .ref a => ((∃ xs, SqL K H a xs) ∧ R (Ite K a) H) ∨ ((∃ xs, SqT K H a xs) ∧ R (IteT K a) H)
  | _ => False
theorem pi_enumV {X : Cx} {e : Expr} {te : TE} {p pos tpos : Pos} {elts : List Expr} {kk : Nat} (hg : Gl X "enumerate") (hm : X.mg "enumerate" = none) (he : PE X e te) (hs : starEach [e] X.env = [(false, eval e X.env)]) :
    PI X (.Tuple elts kk tpos) (.Call (.Name "enumerate" p) [e] [] pos) (fun σ H R => te σ H fun x H1 => iEnumV X.K x H1 R) := by
  refine ⟨fun pins s σ H R I h => ?_⟩
  refine Call_ (ld_blt I hg hm boot_enumerate (PyProof.Rows.callWith_type1 ?_ hs rfl))
  rw [hs]
  show wpAny _ _ (spliced ((false, eval e X.env) :: backTo pos (starEach [] X.env))) _ _ s
  refine Calls.spliced_cons (thn (he.run pins s σ H _ I h) fun u s1 ⟨x, H1, I1, rx, q1⟩ => Calls.spliced_nil ?_)
  cases x with
  | ref a =>
    obtain rfl : u = Value.ref a := rx
    rcases q1 with ⟨⟨xs, hq⟩, q⟩ | ⟨⟨xs, hq⟩, q⟩
    · obtain ⟨its, rv, p', hz⟩ := I1.list hq
      refine call_enumerate_list p'.isList fun h' he hit hsz hk => wpAny_pyIter_enum he ?_
      have I2 : Inv X pins σ H1 { s1 with heap := h' } := I1.kept (t' := s1.toks) hk
      refine ⟨s1.heap.objs.size + 1, [s1.heap.objs.size + 1, s1.heap.objs.size], _, _, H1, rfl, I2, turn_enum a (s1.heap.objs.size + 1) s1.heap.objs.size, ⟨⟨.none, he⟩, hit, Nat.succ_ne_self _⟩, fun b hb => ?_, q⟩
      have e' : b = s1.heap.objs.size + 1 ∨ b = s1.heap.objs.size := by simpa using hb
      have hle : s1.heap.objs.size ≤ b := by
        rcases e' with z | z
        · rw [z]; exact Nat.le_add_right _ _
        · rw [z]; exact Nat.le_refl _
      exact I1.fpOk hle (I1.hok.fresh hle)
    · obtain ⟨its, rv, p', hz⟩ := I1.tuple hq
      have p2 : s1.heap.IsTuple a its.toArray := p'
      have ha : a < s1.heap.objs.size := by obtain ⟨o, ho, _⟩ := p2; exact Heap.lt_size ho
      refine call_enumB (begins_tuple a its.toArray) p2 fun h' he hit hsz hk => wpAny_pyIter_enum he ?_
      have I2 : Inv X pins σ H1 { s1 with heap := h' } := I1.kept (t' := s1.toks) hk
      refine ⟨s1.heap.objs.size + 1, [s1.heap.objs.size + 1, s1.heap.objs.size], _, _, H1, rfl, I2, turn_enumT a (s1.heap.objs.size + 1) s1.heap.objs.size (Nat.ne_of_lt ha) (Nat.ne_of_lt (Nat.lt_succ_of_lt ha)), ⟨⟨.none, he⟩, ⟨_, hit, rfl, rfl⟩, Nat.succ_ne_self _⟩, fun b hb => ?_, q⟩
      have e' : b = s1.heap.objs.size + 1 ∨ b = s1.heap.objs.size := by simpa using hb
      have hle : s1.heap.objs.size ≤ b := by
        rcases e' with z | z
        · rw [z]; exact Nat.le_add_right _ _
        · rw [z]; exact Nat.le_refl _
      exact I1.fpOk hle (I1.hok.fresh hle)
  | _ => exact q1.elim
end CW

namespace CW
open PySem PySem.Spec PyProof.Rows L2
/-! ## 0d. name = a dict comprehension, stored within its block -/
section
variable {X : Cx}
theorem ps_setDc {i : Nat} {y : Str} {py : Pos} {kx vx tg iter : Expr} {ifs : List Expr} {scope : Scope} {own : List (Str × Nat)} {pos spos : Pos} {wi : TI} {g : TG} {tt : TT} {tk tv : TE} (hc : X.calm = true) (hN : X.N.Nodup) (hy : X.N[i]? = some y) (hyl : X.env.scope.names.lookup y = some .local)
    (hsw : swapsWith (.DictComp kx vx [⟨tg, iter, ifs, 0⟩] scope pos) (some (.Name y py)) spos.line X.env = pure true) (hi : PI X tg iter wi) (ok : BlkOk X.N X.env.scope scope own)
    (hg : ∀ (s : Shared) (H : Hp) (C : Addr) (cl : List (Str × Addr)) (fp : List Addr), PG (X.blk s H scope (compEnvC scope cl C X.env) fp) tg g) (ht : ∀ (s : Shared) (H : Hp) (C : Addr) (cl : List (Str × Addr)) (fp : List Addr), PTs (X.blk s H scope (compEnvC scope cl C X.env) fp) ifs tt)
    (hk : ∀ (s : Shared) (H : Hp) (C : Addr) (cl : List (Str × Addr)) (fp : List Addr), PE (X.blk s H scope (compEnvC scope cl C X.env) fp) kx tk)
    (he : ∀ (s : Shared) (H : Hp) (C : Addr) (cl : List (Str × Addr)) (fp : List Addr), PE (X.blk s H scope (compEnvC scope cl C X.env) fp) vx tv) (hs : ∀ x, foldedSetIterable iter X.env x = pure x) :
    PS X (.Assign [.Name y py] (.DictComp kx vx [⟨tg, iter, ifs, 0⟩] scope pos) spos) (tAsg (tDc wi g tt tk tv (own.map (·.2))) (gName i)) := by
  refine ⟨fun pins s σ H D I h => ?_⟩
  rw [exec_Assign_Name_used _ _ _ _ hsw]
  refine wpAny_bind (wpAny_standAt (wpAny_bind ?_))
  show wpAny _ X.A (do let _ ← comprehension (.DictComp kx vx [⟨tg, iter, ifs, 0⟩] scope pos) scope X.env (firstIterPos [⟨tg, iter, ifs, 0⟩] pos) newDict false (eval iter X.env) (some (assign (.Name y py) X.env))) _ _ s
  have h : tDc wi g tt tk tv (own.map (·.2)) σ H (fun x H1 => gName i x σ H1 D.nx) := h
  refine wpAny_bind (thn (dc_core (Qf := fun _ s' => SP X pins D .next s') hc hN I hi ok hg ht hk he hs h fun L C s' m H' I' q hn f => ?_) fun _ s' hq => wpAny_pure (wpAny_pure hq))
  show wpAny _ _ (assign (.Name y py) X.env (.ref L)) _ _ _
  refine wpAny_assign_Name (store_ok2 (v := V.ref L) I' hN hy (.inl hyl) rfl (fun s2 I2 ⟨a, sb, ha⟩ => ?_) (.inr hyl))
  obtain ⟨f0, f1, f2, f3, f4, f5⟩ := f
  have haC : C ≠ a := by
    rcases ha with z | z
    · rw [z]; exact f1
    · exact fun e => f4 y a z e.symm
  refine ⟨m, hn.sameBut sb haC, fun h3 sb3 => ?_⟩
  exact ⟨_, H', I2.turned (t' := s2.toks) (fun b o hb e => (sb3.2 b hb).trans e) f0 f1 f3 f4 f5, q⟩
end
end CW

namespace CW
open PySem PySem.Spec PyProof.Rows L2
/-! ## 0e. sorted(dict, reverse=True), ints -/
section
variable {X : Cx}
theorem run_sortedDRev (hcalm : X.calm = true) {pins : List (Addr × Obj)} {σ : L2.St} {H : Hp} {s : Shared} {Q : VK} {a : Addr} {kvs : List (Key × V)} {ks : List Int} (I : Inv X pins σ H s) (hd : Rd H a (.dK kvs)) (hks : kvs.map (·.1) = ks.map Sum.inl) (hlen : ks.length ≤ 1000)
    (q : ∀ (ys : List Int) (p : Addr), ys.Perm ks → ys.Pairwise (· ≥ ·) → H p = none → Q (.ref p) (upd H p (.lst (ys.map V.int)))) :
    wpAny (model X.prog X.w) X.A (call (.builtin "sorted") [.ref a] [(Str.ofString "reverse", .bool true)]) (EP X pins σ Q) X.xe s := by
  obtain ⟨z, lo, vs, rel, dd⟩ := dk_rd I.hok hd
  obtain ⟨ep, hat⟩ := dd.dictAt
  have hkeys : vs.map (·.1) = ks.map Sum.inl := rel.keys.symm.trans hks
  have hl : vs.length = ks.length := by
    have e := congrArg List.length hkeys
    rw [List.length_map, List.length_map] at e
    exact e
  have h16 : vs.length ≤ sizeLine := by rw [hl, sizeLine_eq]; omega
  refine PyProof.Rows.call_function_entry_kw PyProof.Rows.kind_sorted PyProof.Rows.plain_sorted PyProof.Rows.entry_sorted (PyProof.Rows.args_sorted_rev _ _) ?_
  unfold Builtin.«sorted»
  refine wpAny_bind (m := checkCount "sorted" 1 1 _) (wpAny_pure ?_)
  refine wpAny_bind (PySem.W.kdu_collect (A := X.A.in1) (PySem.W.kdl_dict (knd := mixKind X.prog X.w) (kvs := vs) (ep := ep) lo) (I.ok.hd hcalm) hat h16 fun h' tk acc hk hacc => ?_)
  have hal : acc.toList.length = ks.length := by rw [Array.length_toList, hacc.1, hl]
  have hS : IntsAre acc.toList ks := ints_each hal fun j v e => by
    obtain ⟨k, x, e1, e2⟩ := hacc.2 j v (by rw [← Array.getElem?_toList]; exact e)
    have e3 : (vs.map (·.1))[j]? = some k := by rw [List.getElem?_map, e1]; rfl
    rw [hkeys, List.getElem?_map] at e3
    cases e4 : ks[j]? with
    | none => rw [e4] at e3; cases e3
    | some y =>
      rw [e4] at e3
      have e5 : Sum.inl y = k := Option.some.inj e3
      subst e5
      rcases keyIs_shape (show keyIs (Sum.inl y) v = true from e2) with ⟨i, t, ek, ev⟩ | ⟨z, t, ek, ev⟩
      · cases ek
        exact ⟨y, t, rfl, ev⟩
      · cases ek
  have I1 : Inv X pins σ H { s with heap := h', toks := tk } := I.kept hk
  refine wpAny_bind (wpAny_newList ?_ (by rw [hal, sizeLine_eq]; omega))
  have hoL : (h'.push (seqObj "list" acc.toList.toArray 0)).get? h'.objs.size = some (seqObj "list" acc.toList.toArray 0) := Heap.get?_push_size _ rfl
  show wpAny _ _ _ _ _ { s with heap := h'.push (seqObj "list" acc.toList.toArray 0), toks := tk }
  refine wpAny_bind (wpAny_holding (wpAny_call_entry_kw PyProof.Rows.slot_list_sort ⟨_, hoL, rfl⟩ PyProof.Rows.entry_list_sort
    (PyProof.Rows.list_sort_tree_revAny (b := true) (s := { s with heap := h'.push (seqObj "list" acc.toList.toArray 0), toks := tk }) hoL hS (by rw [hal, sizeLine_eq]; omega) fun out ys g1 g2 g3 => ⟨_, rfl, ?_⟩) (PyProof.Rows.args_list_sort_rev _ _)))
  obtain ⟨e', he'⟩ := PyProof.Rows.sortedHeap_at (vs := acc.toList) (out := out) hoL
  have hlen2 : (ys.map V.int).length ≤ sizeLine := by
    rw [List.length_map, g2.length_eq, sizeLine_eq]; omega
  refine wpAny_pure ⟨_, rfl, .ref h'.objs.size, upd H h'.objs.size (.lst (ys.map V.int)), I1.laid (t' := tk) (fun b u e => ?_) (Nat.le_refl _)
    (show ObjOk X.prog X.w _ _ _ (.lst (ys.map V.int)) from ⟨hlen2, out.toList, e', vals_of_ints g1, by rw [Array.toArray_toList]; exact he'⟩), rfl, q ys _ g2 g3 (I1.hok.fresh (Nat.le_refl _))⟩
  have hb : b < h'.objs.size := Heap.lt_size e
  rw [PyProof.Rows.sortedHeap_old (Nat.ne_of_lt hb) (by rw [size_push']; exact Nat.lt_succ_of_lt hb)]
  exact Heap.get?_push_of_some _ e
end
end CW

namespace CW
open PySem PySem.Spec PyProof.Rows L2
/-! ## 0f. {**a, k: v}, {**a, **b} -/
section
variable {K : Type} [DecidableEq K] {prog : Program} {w : World} {knd : KeyKind prog w K} {A : Around} {E : Value → Shared → Prop} {s : Shared}
theorem dictPut_pairs {d : Addr} {kvs : List (K × Value)} {k : K} {key v : Value} {Q : Unit → Shared → Prop} (hkey : knd.is k key = true) (hm : s.heap.DictOf knd d kvs)
    (hQ : ∀ h', h'.DictOf knd d (stored kvs k v) → Heap.SameBut d s.heap h' → Q () { s with heap := h' }) (hsz : kvs.length ≤ sizeLine) :
    wpAny (model prog w) A (dictPut d (knd.hash k) key v) Q E s := by
  obtain ⟨o, es, ep, ho, hc, hd, hk, hp, hn⟩ := hm
  have hes : es.size ≤ sizeLine := by have e1 := hp.length; have e2 : es.toList.length = es.size := by simp
                                      omega
  unfold dictPut
  refine wpAny_bind (wpAny_dictFind_of hkey ho hd hk ?_)
  have hidx : (es.findIdx? fun e => knd.is k e.key) = kvs.findIdx? fun kv => decide (kv.1 = k) := by
    rw [← hp.findIdx k]; obtain ⟨l⟩ := es; simp
  cases hi : es.findIdx? fun e => knd.is k e.key with
  | some i =>
    refine wpAny_updateDict ho hd (hQ _ ⟨_, _, ep, Heap.get?_update_self _ ho (Obj.isFreed_of_dict (Obj.data_mapDict hd _)),
      hc.mapDict _, Obj.data_mapDict hd _, hk.modify _ _, ?_, ?_⟩ (Heap.SameBut.update ..))
    · rw [stored, if_pos (any_of_findIdx_some (hidx ▸ hi))]
      have hl : (es.toList.findIdx? fun e => knd.is k e.key) = some i := by rw [← hi]; obtain ⟨l⟩ := es; simp
      have := hp.modify hn hl v
      obtain ⟨l⟩ := es
      simpa using this
    · rw [stored, if_pos (any_of_findIdx_some (hidx ▸ hi)), keys_map_store]; exact hn
  | none =>
    have hnot : k ∉ kvs.map (·.1) := not_mem_of_findIdx_none (hidx ▸ hi)
    have hany : ¬ (kvs.any fun kv => decide (kv.1 = k)) = true := by
      rw [List.any_eq_true]; rintro ⟨kv, hkv, he⟩
      exact hnot (List.mem_map.mpr ⟨kv, hkv, of_decide_eq_true he⟩)
    refine wpAny_updateDictKeys (hz := hes) ho hd (hQ _ ⟨_, _, ep + 1, Heap.get?_update_self _ ho (Obj.isFreed_of_dict (Obj.data_mapDictKeys hd _)),
      hc.mapDictKeys _, Obj.data_mapDictKeys hd _, hk.push hkey _, ?_, ?_⟩ (Heap.SameBut.update ..))
    · rw [stored, if_neg hany]
      have := hp.append hkey (knd.hash k) v
      obtain ⟨l⟩ := es
      simpa using this
    · rw [stored, if_neg hany, List.map_append, List.nodup_append]
      refine ⟨hn, by simp, ?_⟩
      intro a ha b hb
      simp only [List.map_cons, List.map_nil, List.mem_singleton] at hb
      subst hb
      exact fun e => hnot (e ▸ ha)
theorem merge_pairs {d o : Addr} {kvs more : List (K × Value)} {Q : Unit → Shared → Prop} (hnr : ∀ k v, knd.is k v = true → ∀ b, v ≠ .ref b) (hdo : d ≠ o) (hoS : (o == sysModules) = false) (hd : s.heap.DictOf knd d kvs) (ho : s.heap.DictOf knd o more)
    (hQ : ∀ h', h'.DictOf knd d (merged kvs more) → Heap.SameBut d s.heap h' → Q () { s with heap := h' }) (hsz : kvs.length + more.length ≤ sizeLine) : wpAny (model prog w) A (mergeMapping d (.ref o) false) Q E s := by
  obtain ⟨od, esd, epd, hod, hcd, hdd, hkd, hpd, hnd⟩ := id hd
  obtain ⟨oo, eso, epo, hoo, hco, hdo', hko, hpo, hno⟩ := id ho
  have hlen : more.length = eso.size := by have := hpo.length; simpa using this.symm
  have loop : wpAny (model prog w) A (do
      let size := (← dictEntries o).size
      let epoch ← dictEpoch o
      forIn (List.range size) PUnit.unit fun i (_ : PUnit) => (do
          let l' ← dictEntries o
          match l'[i]? with
            | some e => do
              holding [e.key, e.val] (dictPut d e.hash e.key e.val)
              let ep' ← dictEpoch o
              if (ep' != epoch) = true then do
                  (unsupported "dict.changed-during-merge" : Sem PUnit)
                  pure (ForInStep.yield PUnit.unit)
                else pure (ForInStep.yield PUnit.unit)
            | _ => do
              (unsupported "dict.changed-during-merge" : Sem PUnit)
              pure (ForInStep.yield PUnit.unit) : Sem (ForInStep PUnit))
      pure ()) Q E s := by
    refine wpAny_bind (wpAny_dictEntries hoo hdo' ?_)
    refine wpAny_bind (wpAny_dictEpoch hoo hdo' ?_)
    refine wpAny_bind ?_
    refine wpAny_forIn_list _
      (fun rest _ s' => ∃ h' i, s' = { s with heap := h' } ∧ rest = List.range' i (eso.size - i) ∧ i ≤ eso.size ∧ h'.DictOf knd d (merged kvs (more.take i)) ∧ h'.get? o = some oo ∧ Heap.SameBut d s.heap h')
      _ ?_ ?_ _ _ ⟨s.heap, 0, rfl, by rw [List.range_eq_range', Nat.sub_zero], Nat.zero_le _, by simpa [merged] using hd, hoo, Heap.SameBut.refl _ _⟩
    · rintro x rest b s' ⟨h', i, rfl, hr, hi, hd', hoo', hs'⟩
      have hlt : i < eso.size := by
        rcases Nat.lt_or_ge i eso.size with h | h
        · exact h
        · rw [Nat.sub_eq_zero_of_le h] at hr; simp at hr
      obtain ⟨rfl, hrest⟩ : x = i ∧ rest = List.range' (i + 1) (eso.size - (i + 1)) := by
        have e : eso.size - i = (eso.size - (i + 1)) + 1 := by omega
        rw [e, List.range'_succ] at hr
        injection hr with h1 h2
        exact ⟨h1, h2⟩
      refine wpAny_bind (wpAny_dictEntries hoo' hdo' ?_)
      rw [Array.getElem?_eq_getElem hlt]
      obtain ⟨kv, hkv⟩ : ∃ kv, more[x]? = some kv := ⟨more[x]'(by rw [hlen]; exact hlt), List.getElem?_eq_getElem _⟩
      obtain ⟨k, v⟩ := kv
      obtain ⟨hkey, hval⟩ := hpo.get? (e := eso[x]) (by simp [hlt]) hkv
      obtain ⟨k', hkey', hhash⟩ := hko eso[x] (Array.getElem_mem hlt)
      obtain rfl : k' = k := knd.inj _ _ _ hkey' hkey
      show wpAny _ _ (holding [eso[x].key, eso[x].val] (dictPut d eso[x].hash eso[x].key eso[x].val) >>= _) _ _ _
      rw [hhash, hval]
      have hmx : (merged kvs (more.take x)).length ≤ sizeLine := by
        have e1 := merged_length_le kvs (more.take x)
        have e2 : (more.take x).length ≤ more.length := by rw [List.length_take]; omega
        omega
      refine wpAny_bind (wpAny_holding (dictPut_pairs (hsz := hmx) hkey hd' fun h'' hd'' hs'' => ?_))
      have hoo'' : h''.get? o = some oo := (hs''.2 o (Ne.symm hdo)).trans hoo'
      refine wpAny_bind (wpAny_dictEpoch hoo'' hdo' ?_)
      rw [if_neg (by simp)]
      exact wpAny_pure ⟨h'', x + 1, rfl, hrest, hlt, by rw [merged_take_succ kvs more x (k', v) hkv]; exact hd'', hoo'', hs'.trans hs''⟩
    · rintro b s' ⟨h', i, rfl, hr, hi, hd', hoo', hs'⟩
      have hin : i = eso.size := by
        rcases Nat.lt_or_ge i eso.size with h | h
        · have e : eso.size - i = (eso.size - (i + 1)) + 1 := by omega
          rw [e, List.range'_succ] at hr; exact nomatch hr
        · exact Nat.le_antisymm hi h
      refine wpAny_pure (hQ h' ?_ hs')
      rw [hin, ← hlen, List.take_length] at hd'; exact hd'
  unfold mergeMapping
  refine wpAny_bind (wpAny_isInstance ho.typeIs isSubtype_dict_dict ?_)
  simp only [if_true]
  refine wpAny_bind (wpAny_specialOf ho.typeIs F.slot_dict_iter.lookup ?_)
  simp only [beq_self_eq_true]
  refine wpAny_bind (wpAny_pure ?_)
  simp only [hoS, Bool.false_eq_true, if_false]
  refine wpAny_bind (wpAny_dictEntries hod hdd ?_)
  have scan : ∀ {Q' : PUnit → Shared → Prop}, Q' PUnit.unit s → wpAny (model prog w) A (forIn eso PUnit.unit fun e (_ : PUnit) => (match e.key with
      | Value.ref a => do
        let __do_lift ← specialOf e.key (Str.ofString "__eq__")
        if (__do_lift != some (Value.builtin "object.__eq__")) = true then
            if (Array.filter (fun x => x.hash == e.hash) eso).size > 1 then do
              (unsupported "dict.merge-into-an-empty-dict:keys-of-equal-hash" : Sem PUnit)
              pure (ForInStep.yield PUnit.unit)
            else pure (ForInStep.yield PUnit.unit)
          else pure (ForInStep.yield PUnit.unit)
      | _ => pure (ForInStep.yield PUnit.unit) : Sem (ForInStep PUnit))) Q' E s := by
    intro Q' hq
    rw [← Array.forIn_toList]
    refine wpAny_forIn_list _ (fun rest _ s' => s' = s ∧ ∀ e ∈ rest, e ∈ eso.toList) _ ?_ (fun _ s' h => by rw [h.1]; exact hq) _ _ ⟨rfl, fun e he => he⟩
    rintro x rest b s' ⟨rfl, hm⟩
    obtain ⟨k', hkey', _⟩ := hko x (by simpa using hm x (by simp))
    have hx := hnr _ _ hkey'
    split
    · rename_i b' e'; exact absurd e' (hx _)
    · exact wpAny_pure ⟨rfl, fun e he => hm e (by simp [he])⟩
  split
  · refine wpAny_bind (wpAny_dictEntries hoo hdo' ?_)
    exact wpAny_bind (scan loop)
  · exact loop
end
end CW

namespace CW
open PySem PySem.Spec PyProof.Rows L2
section
theorem disp_star1 {M : Model} {A : Around} {E : Value → Shared → Prop} {s : Shared} {Q : Value → Shared → Prop} {a k v : Sem Value}
    (h : wpAny M A (alloc { cls := .type "dict", data := .dict #[] }) (fun d s1 => wpAny M A a (fun m s2 => wpAny M A (mergeMapping d m false) (fun _ s3 => wpAny M A (subDict [(k, v)]) (fun e s4 => wpAny M A (mergeMapping d (.ref e) false) (fun _ s5 => Q (.ref d) s5) (fun _ _ => False) s4) E s3) (fun _ _ => False) s2) E s1) E s) :
    wpAny M A (dictDisplay [(none, a), (some k, v)]) Q E s := by
  unfold dictDisplay
  simp only [List.forIn_cons, List.forIn_nil, List.isEmpty_nil, if_true, pure_bind, List.nil_append, List.length_cons, List.length_nil]
  refine wpAny_bind (wpAny_bind (wpAny_bind (wpAny_mono h (fun d s1 h1 => ?_) fun _ _ e => e)))
  refine wpAny_bind (wpAny_holding (wpAny_mono h1 (fun m s2 h2 => ?_) fun _ _ e => e))
  refine wpAny_bind (wpAny_onRaise (wpAny_tryCatch (wpAny_onRaise (wpAny_holding (wpAny_mono h2 (fun _ s3 h3 => ?_) fun _ _ e => e.elim)))))
  refine wpAny_pure ?_
  simp only [List.nil_append, List.length_cons, List.length_nil, Nat.zero_add]
  rw [if_neg (by decide)]
  refine wpAny_bind (wpAny_pure ?_)
  simp only [pure_bind, List.isEmpty_cons, Bool.false_eq_true, if_false]
  refine wpAny_pure ?_
  simp only [List.isEmpty_cons, Bool.false_eq_true, if_false]
  refine wpAny_bind (wpAny_bind (wpAny_holding (wpAny_mono h3 (fun e s4 h4 => ?_) fun _ _ e => e)))
  refine wpAny_bind (wpAny_onRaise (wpAny_holding (wpAny_mono h4 (fun _ s5 h5 => ?_) fun _ _ e => e.elim)))
  exact wpAny_pure (wpAny_pure h5)
theorem disp_star2 {M : Model} {A : Around} {E : Value → Shared → Prop} {s : Shared} {Q : Value → Shared → Prop} {a b : Sem Value}
    (h : wpAny M A (alloc { cls := .type "dict", data := .dict #[] }) (fun d s1 => wpAny M A a (fun m s2 => wpAny M A (mergeMapping d m false) (fun _ s3 => wpAny M A b (fun m2 s4 => wpAny M A (mergeMapping d m2 false) (fun _ s5 => Q (.ref d) s5) (fun _ _ => False) s4) E s3) (fun _ _ => False) s2) E s1) E s) :
    wpAny M A (dictDisplay [(none, a), (none, b)]) Q E s := by
  unfold dictDisplay
  simp only [List.forIn_cons, List.forIn_nil, List.isEmpty_nil, if_true, pure_bind, List.nil_append, List.length_cons, List.length_nil]
  refine wpAny_bind (wpAny_bind (wpAny_bind (wpAny_mono h (fun d s1 h1 => ?_) fun _ _ e => e)))
  refine wpAny_bind (wpAny_holding (wpAny_mono h1 (fun m s2 h2 => ?_) fun _ _ e => e))
  refine wpAny_bind (wpAny_onRaise (wpAny_tryCatch (wpAny_onRaise (wpAny_holding (wpAny_mono h2 (fun _ s3 h3 => ?_) fun _ _ e => e.elim)))))
  refine wpAny_pure ?_
  simp only [List.isEmpty_nil, if_true, pure_bind]
  refine wpAny_bind (wpAny_bind (wpAny_holding (wpAny_mono h3 (fun m2 s4 h4 => ?_) fun _ _ e => e)))
  refine wpAny_bind (wpAny_onRaise (wpAny_tryCatch (wpAny_onRaise (wpAny_holding (wpAny_mono h4 (fun _ s5 h5 => ?_) fun _ _ e => e.elim)))))
  refine wpAny_pure ?_
  simp only [pure_bind, List.isEmpty_nil, if_true]
  exact wpAny_pure (wpAny_pure h5)
theorem key_noref {P : Program} {w : World} : ∀ (k : Key) (v : Value), (mixKind P w).is k v = true → ∀ b, v ≠ .ref b := fun k v h b e => by
  rcases keyIs_shape (show keyIs k v = true from h) with ⟨i, t, _, rfl⟩ | ⟨x, t, _, rfl⟩ <;> cases e
variable {X : Cx}
/-- one dict into another -/
theorem merge_ok {pins : List (Addr × Obj)} {σ : L2.St} {H : Hp} {s : Shared} {E : Value → Shared → Prop} {d b : Addr} {kvs more : List (Key × V)} {Q : Unit → Shared → Prop} (I : Inv X pins σ H s) (hd : H d = some (.dK kvs)) (hb : Rd H b (.dK more)) (hne : d ≠ b) (hz : kvs.length + more.length ≤ sizeLine)
    (h : ∀ s', Inv X pins σ (upd H d (.dK (mergeK kvs more))) s' → Q () s') : wpAny (model X.prog X.w) X.A (mergeMapping d (.ref b) false) Q E s := by
  obtain ⟨z1, lo1, vs, rel, dd⟩ := dk_of I.hok hd
  obtain ⟨z2, lo2, ws, rel2, dd2⟩ := dk_rd I.hok hb
  refine merge_pairs key_noref hne lo2 dd dd2 (fun h' d' hs => ?_) (by rw [← rel.length, ← rel2.length]; exact hz)
  have he : ∃ q, h'.get? d = some q := let ⟨q, _, _, hq, _⟩ := d'; ⟨q, hq⟩
  have hl : (mergeK kvs more).length ≤ sizeLine := by have := length_mergeK more kvs; omega
  have J := d_write (s := s) (h' := h') (t' := s.toks) I (by rw [hd]; exact True.intro) hs he (dk_new hl lo1 (KV.merge rel2 rel) d')
  exact h _ J
/-- {**a, k: v} -/
def tDs1 (ta tk tv : TE) : TE := fun σ H Q => ∀ d, H d = none → ta σ (upd H d (.dK [])) fun x H1 => ∃ b kvs, x = .ref b ∧ Rd H1 b (.dK kvs) ∧ H1 d = some (.dK []) ∧ d ≠ b ∧ kvs.length ≤ 1000 ∧
  ∀ e, upd H1 d (.dK (mergeK [] kvs)) e = none → tk σ (upd (upd H1 d (.dK (mergeK [] kvs))) e (.dK [])) fun y H3 => tv σ H3 fun z H4 => ∃ kk kvs4, y = kV kk ∧ d ≠ e ∧ H4 e = some (.dK []) ∧ H4 d = some (.dK kvs4) ∧ kvs4.length ≤ 1000 ∧
    Q (.ref d) (upd (upd H4 e (.dK (putK [] kk z))) d (.dK (mergeK kvs4 (putK [] kk z))))
def tDs2 (ta tb : TE) : TE := fun σ H Q => ∀ d, H d = none → ta σ (upd H d (.dK [])) fun x H1 => ∃ b kvs, x = .ref b ∧ Rd H1 b (.dK kvs) ∧ H1 d = some (.dK []) ∧ d ≠ b ∧ kvs.length ≤ 1000 ∧
  tb σ (upd H1 d (.dK (mergeK [] kvs))) fun y H2 => ∃ b2 more kvs2, y = .ref b2 ∧ Rd H2 b2 (.dK more) ∧ H2 d = some (.dK kvs2) ∧ d ≠ b2 ∧ kvs2.length + more.length ≤ 1000 ∧ Q (.ref d) (upd H2 d (.dK (mergeK kvs2 more)))
theorem new_dict {pins : List (Addr × Obj)} {σ : L2.St} {H : Hp} {s : Shared} {E : Value → Shared → Prop} {Q : Addr → Shared → Prop} (I : Inv X pins σ H s) (h : ∀ d s', H d = none → Inv X pins σ (upd H d (.dK [])) s' → Q d s') : wpAny (model X.prog X.w) X.A (alloc { cls := .type "dict", data := .dict #[] }) Q E s := by
  refine wpAny_alloc (h _ _ (I.hok.fresh (Nat.le_refl _)) ?_)
  refine I.laid (t' := s.toks) (fun b o e => Heap.get?_push_of_some _ e) (Nat.le_refl _) ?_
  exact dk_empty s.heap I.big
theorem pe_ds1 {a k v : Expr} {ta tk tv : TE} {pos : Pos} (ha : PE X a ta) (hk : PE X k tk) (hv : PE X v tv) : PE X (.Dict [none, some k] [a, v] pos) (tDs1 ta tk tv) := by
  have hz : (sizeLine : Nat) = 16777216 := sizeLine_eq
  refine ⟨fun pins s σ H Q I h => ?_⟩
  rw [arm_eval_Dict]
  refine wpAny_bind (wpAny_standAt ?_)
  show wpAny _ _ (dictDisplay [(none, do let x ← eval a X.env; standAt pos; pure x), (some (eval k X.env), do let x ← eval v X.env; standAt pos; pure x)]) _ _ s
  refine disp_star1 (new_dict I fun d s1 hd I1 => wpAny_bind (thn (ha.run pins s1 σ _ _ I1 (h d hd)) fun u s2 ⟨x, H1, I2, rx, b, kvs, ex, hb, hd1, hne, hl, q⟩ => wpAny_bind (wpAny_standAt (wpAny_pure ?_))))
  subst ex
  obtain rfl : u = Value.ref b := rx
  refine merge_ok I2 hd1 hb hne (by simp; omega) fun s3 I3 => ?_
  unfold subDict
  refine wpAny_bind (new_dict I3 fun e s4 he I4 => wpAny_bind (wpAny_holding ?_))
  rw [if_pos (by show 1 ≤ 15; decide)]
  show wpAny _ _ (evalPairs [(eval k X.env, do let x ← eval v X.env; standAt pos; pure x)] >>= _) _ _ s4
  unfold evalPairs
  refine wpAny_bind (wpAny_bind (thn (hk.run pins s4 σ _ _ I4 (q e he)) fun uk s5 ⟨y, H3, I5, ry, q5⟩ => ?_))
  refine wpAny_bind (wpAny_holding (wpAny_bind (thn (hv.run pins s5 σ _ _ I5 q5) fun uv s6 ⟨z, H4, I6, rz, kk, kvs4, ey, hde, he4, hd4, hl4, q6⟩ => wpAny_bind (wpAny_standAt (wpAny_pure ?_)))))
  subst ey
  refine wpAny_bind (wpAny_holding ?_)
  unfold evalPairs
  refine wpAny_pure (wpAny_pure (wpAny_holding ?_))
  simp only [List.forIn_cons, List.forIn_nil]
  refine wpAny_bind (wpAny_bind (wpAny_bind (d_dictSet I6 he4 (by simp; omega) ry rz fun s7 I7 => wpAny_pure (wpAny_pure (wpAny_pure (wpAny_pure ?_))))))
  have hz4 : (putK [] kk z).length ≤ 1 := by have := length_putK [] kk z; simpa using this
  refine merge_ok (kvs := kvs4) I7 (by rw [upd_ne hde]; exact hd4) (.inl (upd_same ..)) hde (by omega) fun s8 I8 => ?_
  exact ⟨.ref d, _, I8, rfl, q6⟩
theorem pe_ds2 {a b : Expr} {ta tb : TE} {pos : Pos} (ha : PE X a ta) (hb : PE X b tb) : PE X (.Dict [none, none] [a, b] pos) (tDs2 ta tb) := by
  have hz : (sizeLine : Nat) = 16777216 := sizeLine_eq
  refine ⟨fun pins s σ H Q I h => ?_⟩
  rw [arm_eval_Dict]
  refine wpAny_bind (wpAny_standAt ?_)
  show wpAny _ _ (dictDisplay [(none, do let x ← eval a X.env; standAt pos; pure x), (none, do let x ← eval b X.env; standAt pos; pure x)]) _ _ s
  refine disp_star2 (new_dict I fun d s1 hd I1 => wpAny_bind (thn (ha.run pins s1 σ _ _ I1 (h d hd)) fun u s2 ⟨x, H1, I2, rx, b, kvs, ex, hb1, hd1, hne, hl, q⟩ => wpAny_bind (wpAny_standAt (wpAny_pure ?_))))
  subst ex
  obtain rfl : u = Value.ref b := rx
  refine merge_ok I2 hd1 hb1 hne (by simp; omega) fun s3 I3 => ?_
  refine wpAny_bind (thn (hb.run pins s3 σ _ _ I3 q) fun u2 s4 ⟨y, H2, I4, ry, b2, more, kvs2, ey, hb2, hd2, hne2, hl2, q2⟩ => wpAny_bind (wpAny_standAt (wpAny_pure ?_)))
  subst ey
  obtain rfl : u2 = Value.ref b2 := ry
  refine merge_ok I4 hd2 hb2 hne2 (by omega) fun s5 I5 => ?_
  exact ⟨.ref d, _, I5, rfl, q2⟩
end
end CW

namespace CW
open PySem PySem.Spec PyProof.Rows L2
/-! ## 0g. for x in d.items(): the tuple stays with the name -/
def ItG (h : Heap) (it d : Addr) (i n ep : Nat) : Prop := ∃ (f0 f1 ok ov : Value), (f0 = .none ∨ ∃ a : Addr, f0 = rawInt a) ∧
  h.get? it = some { cls := .type "dict_itemiterator", dict := none, data := .fields #[f0, f1, .ref d, .int i 0, .int n 0, .int ep 0, ok, ov], slots := #[] }
theorem wpAny_loadIfAlive {M : Model} {A : Around} {E : Value → Shared → Prop} {s : Shared} {a : Addr} {Q : Option Obj → Shared → Prop} (h : Q (s.heap.get? a) s) : wpAny M A (loadIfAlive a) Q E s := fun _ _ _ => h
section
variable {prog : Program} {w : World} {K : Type} [DecidableEq K] {knd : KeyKind prog w K} {A : Around} {E : Value → Shared → Prop} {s : Shared}
/-- whether the owned tuple is free -/
theorem owned_free {it d : Addr} {i n ep : Nat} {Q : Bool → Shared → Prop} (hit : ItG s.heap it d i n ep) (hQ : ∀ b h', ItG h' it d i n ep → Heap.SameBut it s.heap h' → Q b { s with heap := h' }) :
    wpAny (model prog w) A (Builtin.Dict_items.ownedTupleIsFree (.ref it)) Q E s := by
  obtain ⟨f0, f1, ok, ov, hf, he⟩ := id hit
  unfold Builtin.Dict_items.ownedTupleIsFree
  refine wpAny_bind (wpAny_field he rfl (x := f0) rfl ?_)
  have same : Q true s := hQ true s.heap hit (Heap.SameBut.refl _ _)
  have same' : Q false s := hQ false s.heap hit (Heap.SameBut.refl _ _)
  rcases hf with rfl | ⟨a, rfl⟩
  · exact wpAny_pure same
  · refine wpAny_bind (wpAny_loadIfAlive ?_)
    split
    · exact wpAny_pure same
    · refine wpAny_bind (wpAny_field he rfl (x := f1) rfl ?_)
      split
      · exact wpAny_bind (wpAny_setField_rec he (by simp) fun h' he' hs' => wpAny_pure (hQ false h' ⟨_, _, _, _, .inr ⟨a, rfl⟩, he'⟩ hs'))
      · exact wpAny_pure same'
theorem next_itemG {it d : Addr} {i ep : Nat} {kvs : List (K × Value)} {k : K} {v : Value} {Q : Option Value → Shared → Prop} (hit : ItG s.heap it d i kvs.length ep)
    (hm : s.heap.DictAt knd d kvs ep) (hx : kvs[i]? = some (k, v))
    (hQ : ∀ key h', knd.is k key = true → ItG h' it d (i + 1) kvs.length ep →
      h'.get? s.heap.objs.size = some { cls := .type "tuple", data := .seq #[key, v] } → h'.objs.size = s.heap.objs.size + 1 →
      (∀ b o, b ≠ it → s.heap.get? b = some o → h'.get? b = some o) → Q (some (.ref s.heap.objs.size)) { s with heap := h' }) :
    wpAny (model prog w) A (pyNext (.ref it)) Q E s := by
  obtain ⟨hp, g, dr, tk, os⟩ := s
  obtain ⟨od, es, hod, hcd, hdd, hk, hpr, hn⟩ := id hm
  obtain ⟨f0, f1, ok, ov, hf, hit⟩ := hit
  have hT : Shared.TypeIs ⟨hp, g, dr, tk, os⟩ (.ref it) "dict_itemiterator" := ⟨_, hit, rfl⟩
  unfold pyNext
  refine wpAny_bind (wpAny_attempt (wpAny_callSpecial?_slot (name := Str.ofString "__next__") hT F.slot_dict_itemiterator_next
    (wpAny_call_entry F.slot_dict_itemiterator_next hT F.entry_dict_itemiterator_next ?_ (F.args_dict_itemiterator_next_1 _))))
  refine wpAny_bind (wpAny_pure ?_)
  refine wpAny_bind ?_
  refine wpAny_bind ?_
  first | refine wpAny_bind (wpAny_typeNameOfWhole_itemiter hT (wpAny_pure ?_)) | refine wpAny_bind (wpAny_typeNameOf_itemiter hT (wpAny_pure ?_))
  refine wpAny_bind (wpAny_fieldsOf hit rfl ?_)
  have hown : Builtin.Dict_items.ownsTuple "dict_itemiterator" = true := by decide
  simp only [hown, if_true]
  show wpAny _ _ (if (Value.ref d == Value.none) = true then _ else _) _ _ _
  rw [if_neg (show ¬ ((Value.ref d == Value.none) = true) from Bool.false_ne_true)]
  refine wpAny_bind (wpAny_pure ?_)
  refine wpAny_bind (wpAny_dictEntries hod hdd ?_)
  have hsz : es.size = kvs.length := by rw [← hpr.length]; simp
  rw [if_neg (by rw [hsz]; simp)]
  refine wpAny_bind (wpAny_pure ?_)
  refine wpAny_bind (wpAny_dictEpoch hod hdd ?_)
  rw [if_neg (by simp)]
  refine wpAny_pure ?_
  have hlt : i < kvs.length := by
    rcases Nat.lt_or_ge i kvs.length with h | h
    · exact h
    · simp [List.getElem?_eq_none h] at hx
  have hlt' : i < es.size := by rw [hsz]; exact hlt
  obtain ⟨hkey, hval⟩ := hpr.get? (e := es[i]) (by simp [hlt']) hx
  simp only [show ¬ ((i : Int) < 0) from by omega, if_false, Int.toNat_natCast, Array.getElem?_eq_getElem hlt']
  refine wpAny_bind ?_
  first | refine wpAny_bind (wpAny_typeNameOfWhole_itemiter hT (wpAny_pure ?_)) | refine wpAny_bind (wpAny_typeNameOf_itemiter hT (wpAny_pure ?_))
  refine wpAny_bind (wpAny_isOneOf_itemiter hT ?_)
  show wpAny _ _ (setField (.ref it) 3 (rawInt ((i : Int) + 1)) >>= _) _ _ ⟨hp, g, dr, tk, os⟩
  refine wpAny_bind (wpAny_setField_rec hit (by simp) fun h₁ he₁ hs₁ => ?_)
  replace hs₁ : Heap.SameBut it hp h₁ := hs₁
  replace he₁ : h₁.get? it = some { cls := .type "dict_itemiterator", dict := none, data := .fields #[f0, f1, .ref d, .int (i + 1 : Nat) 0, .int kvs.length 0, .int ep 0, ok, ov], slots := #[] } := by
    have e : ((i + 1 : Nat) : Int) = (i : Int) + 1 := by omega
    rw [e]; simpa [rawInt] using he₁
  have hT₁ : Shared.TypeIs ⟨h₁, g, dr, tk, os⟩ (.ref it) "dict_itemiterator" := ⟨_, he₁, rfl⟩
  refine wpAny_bind (wpAny_holding ?_)
  refine wpAny_bind (wpAny_isOneOf_itemiter hT₁ ?_)
  refine wpAny_bind (wpAny_isOneOf_itemiter hT₁ ?_)
  show wpAny _ _ (Builtin.Dict_items.pairFromOwner (.ref it) 6 es[i].key es[i].val) _ _ ⟨h₁, g, dr, tk, os⟩
  unfold Builtin.Dict_items.pairFromOwner
  refine wpAny_bind (wpAny_newTuple ?_)
  have he₂ : ItG (h₁.push { cls := .type "tuple", data := .seq #[es[i].key, es[i].val] }) it d (i + 1) kvs.length ep := ⟨f0, f1, ok, ov, hf, Heap.get?_push_of_some _ he₁⟩
  generalize hh₂ : h₁.push { cls := .type "tuple", data := .seq #[es[i].key, es[i].val] } = h₂ at he₂
  have hz₁ : h₁.objs.size = hp.objs.size := hs₁.1
  have hil : it < hp.objs.size := Heap.lt_size hit
  have ht₂ : h₂.get? hp.objs.size = some { cls := .type "tuple", data := .seq #[es[i].key, es[i].val] } := by rw [← hh₂, ← hz₁]; exact Heap.get?_push_size _ rfl
  have hz₂ : h₂.objs.size = hp.objs.size + 1 := by rw [← hh₂, Heap.size_push, hz₁]
  have hk₂ : ∀ b o, b ≠ it → hp.get? b = some o → h₂.get? b = some o := fun b o hb e => by rw [← hh₂]; exact Heap.get?_push_of_some _ (hs₁.extBut b o hb e)
  show wpAny _ _ (Builtin.Dict_items.ownedTupleIsFree (.ref it) >>= _) _ _ ⟨h₂, g, dr, tk, os⟩
  rw [hz₁]
  clear hh₂ he₁ hs₁ hT₁ hz₁ h₁ hit hf hT
  refine wpAny_bind (owned_free (s := ⟨h₂, g, dr, tk, os⟩) he₂ fun b h₃ he₃ hs₃ => ?_)
  replace hs₃ : Heap.SameBut it h₂ h₃ := hs₃
  have ht₃ : h₃.get? hp.objs.size = some { cls := .type "tuple", data := .seq #[es[i].key, es[i].val] } := hs₃.extBut _ _ (Nat.ne_of_gt hil) ht₂
  have hz₃ : h₃.objs.size = hp.objs.size + 1 := by rw [hs₃.1, hz₂]
  have hk₃ : ∀ b o, b ≠ it → hp.get? b = some o → h₃.get? b = some o := fun b o hb e => hs₃.extBut b o hb (hk₂ b o hb e)
  show wpAny _ _ _ _ _ ⟨h₃, g, dr, tk, os⟩
  clear hs₃ he₂ ht₂ hz₂ hk₂
  cases b with
  | false =>
    simp only [Bool.false_eq_true, if_false]
    exact wpAny_pure (wpAny_pure ⟨_, rfl, wpAny_pure (hQ es[i].key h₃ hkey he₃ (hval ▸ ht₃) hz₃ hk₃)⟩)
  | true =>
    simp only [if_true]
    obtain ⟨f0, f1, ok, ov, hf, he₃⟩ := he₃
    refine wpAny_bind (wpAny_field he₃ rfl (x := ok) rfl ?_)
    refine wpAny_bind (wpAny_field he₃ rfl (x := ov) rfl ?_)
    refine wpAny_bind (wpAny_setField_rec he₃ (by simp) fun h₄ he₄ hs₄ => ?_)
    replace hs₄ : Heap.SameBut it h₃ h₄ := hs₄
    refine wpAny_bind (wpAny_setField_rec he₄ (by simp) fun h₅ he₅ hs₅ => ?_)
    replace hs₅ : Heap.SameBut it h₄ h₅ := hs₅
    refine wpAny_bind (wpAny_setField_rec he₅ (by simp) fun h₆ he₆ hs₆ => ?_)
    replace hs₆ : Heap.SameBut it h₅ h₆ := hs₆
    refine wpAny_bind (wpAny_setField_rec he₆ (by simp) fun h₇ he₇ hs₇ => ?_)
    replace hs₇ : Heap.SameBut it h₆ h₇ := hs₇
    refine wpAny_bind (wpAny_letGo (wpAny_pure (wpAny_pure ⟨_, rfl, wpAny_pure (hQ es[i].key h₇ hkey ⟨_, _, _, _, .inr ⟨hp.objs.size, rfl⟩, he₇⟩ ?_ ?_ ?_)⟩)))
    · rw [← hval]; exact hs₇.extBut _ _ (Nat.ne_of_gt hil) (hs₆.extBut _ _ (Nat.ne_of_gt hil) (hs₅.extBut _ _ (Nat.ne_of_gt hil) (hs₄.extBut _ _ (Nat.ne_of_gt hil) ht₃)))
    · show h₇.objs.size = hp.objs.size + 1
      rw [hs₇.1, hs₆.1, hs₅.1, hs₄.1, hz₃]
    · exact fun b o hb e => hs₇.extBut b o hb (hs₆.extBut b o hb (hs₅.extBut b o hb (hs₄.extBut b o hb (hk₃ b o hb e))))
theorem selfG {it d : Addr} {i n ep : Nat} {Q : Value → Shared → Prop} (hit : ItG s.heap it d i n ep) (h : Q (.ref it) s) : wpAny (model prog w) A (pyIter (.ref it)) Q E s := by
  obtain ⟨f0, f1, ok, ov, hf, hit⟩ := hit
  have hT : s.TypeIs (.ref it) "dict_itemiterator" := ⟨_, hit, rfl⟩
  refine wpAny_pyIter_slot hT PySem.F.slot_dict_itemiterator_iter (wpAny_call_entry PySem.F.slot_dict_itemiterator_iter hT PySem.W.kcp_entry ?_ (PySem.F.args_dict_itemiterator_iter_1 _))
  show wpAny _ _ (ret (.ref it)) _ _ s
  exact wpAny_pure ⟨_, rfl, "dict_itemiterator", _, hT, PySem.F.slot_dict_itemiterator_next.lookup, h⟩
theorem next_endG {it d : Addr} {i ep : Nat} {kvs : List (K × Value)} {Q : Option Value → Shared → Prop} (hh : A.handled = none) (hit : ItG s.heap it d i kvs.length ep)
    (hm : s.heap.DictAt knd d kvs ep) (hx : kvs[i]? = none)
    (hQ : ∀ h', Heap.ExtBut it s.heap h' → Q none { s with heap := h' }) : wpAny (model prog w) A (pyNext (.ref it)) Q E s := by
  obtain ⟨od, es, hod, hcd, hdd, hk, hpr, hn⟩ := id hm
  obtain ⟨f0, f1, ok, ov, hf, hit⟩ := hit
  have hT : s.TypeIs (.ref it) "dict_itemiterator" := ⟨_, hit, rfl⟩
  unfold pyNext
  refine wpAny_bind (wpAny_attempt (wpAny_callSpecial?_slot (name := Str.ofString "__next__") hT F.slot_dict_itemiterator_next
    (wpAny_call_entry F.slot_dict_itemiterator_next hT F.entry_dict_itemiterator_next ?_ (F.args_dict_itemiterator_next_1 _))))
  refine wpAny_bind (wpAny_pure ?_)
  refine wpAny_bind ?_
  refine wpAny_bind ?_
  first | refine wpAny_bind (wpAny_typeNameOfWhole_itemiter hT (wpAny_pure ?_)) | refine wpAny_bind (wpAny_typeNameOf_itemiter hT (wpAny_pure ?_))
  refine wpAny_bind (wpAny_fieldsOf hit rfl ?_)
  have hown : Builtin.Dict_items.ownsTuple "dict_itemiterator" = true := by decide
  simp only [hown, if_true]
  show wpAny _ _ (if (Value.ref d == Value.none) = true then _ else _) _ _ s
  rw [if_neg (show ¬ ((Value.ref d == Value.none) = true) from Bool.false_ne_true)]
  refine wpAny_bind (wpAny_pure ?_)
  refine wpAny_bind (wpAny_dictEntries hod hdd ?_)
  have hsz : es.size = kvs.length := by rw [← hpr.length]; simp
  rw [if_neg (by rw [hsz]; simp)]
  refine wpAny_bind (wpAny_pure ?_)
  refine wpAny_bind (wpAny_dictEpoch hod hdd ?_)
  rw [if_neg (by simp)]
  refine wpAny_pure ?_
  have hge : es.size ≤ i := by rw [hsz]; simpa using hx
  simp only [show ¬ ((i : Int) < 0) from by omega, if_false, Int.toNat_natCast, Array.getElem?_eq_none hge]
  refine wpAny_bind ?_
  first | refine wpAny_bind (wpAny_typeNameOfWhole_itemiter hT (wpAny_pure ?_)) | refine wpAny_bind (wpAny_typeNameOf_itemiter hT (wpAny_pure ?_))
  show wpAny _ _ (setField (.ref it) 2 .none >>= _) _ _ s
  refine wpAny_bind (wpAny_setField hit rfl (by simp) ?_)
  show wpAny _ _ (newExc (.type "StopIteration") [] >>= _) _ _ _
  refine wpAny_bind ?_
  simp only [newExc, newTuple]
  refine wpAny_bind (wpAny_newObj_type ?_ (by size_fits))
  refine wpAny_bind (m := firstArgMember _ _) (wpAny_of_eq (a := Value.none) (by first | rfl | (simp only [firstArgMember]; rfl)) ?_)
  refine wpAny_newObj_type ?_ (by size_fits)
  simp only [raiseNew]
  refine wpAny_bind (wpAny_handled ?_)
  rw [show A.in1.handled = none from hh]
  refine wpAny_bind (wpAny_pure (wpAny_throw ?_))
  refine wpAny_bind (wpAny_isInstance (T := "StopIteration") (b := true) ⟨_, Heap.get?_push_size _ rfl, rfl⟩ isSubtype_stop ?_)
  exact wpAny_pure (hQ _ (((Heap.SameBut.update ..).extBut.push _).push _))
end
section
variable {P : Program} {w : World} {K : PySem.W.Frag} {d : Addr} {o : Obj} {es : Array DictEntry} {ep : Nat}
theorem turn_itemsN {kvs : List (Key × V)} {x : Str} {tpos : Pos} (it : Addr) (hod : o.data = .dict es ep) :
    Turn P w K (.Name x tpos) (Iti d o kvs) [it] it (fun i h => ItG h it d i kvs.length ep) where
  mem := by simp
  obj := fun i h st b hb => by
    have e : b = it := by simpa using hb
    subst e
    obtain ⟨f0, f1, ok, ov, hf, e⟩ := st
    exact ⟨_, e, fun v z => nomatch z⟩
  keep := fun i h h' st k => let ⟨f0, f1, ok, ov, hf, e⟩ := st; ⟨f0, f1, ok, ov, hf, k it (by simp) _ e⟩
  item := by
    intro X hP hw hK hc i pins s σ H E I hf st hg
    subst hP hw hK
    obtain ⟨hd, hi⟩ := hg
    obtain ⟨hs, hgd, hx, es', ep', vs, hdt, hsz, kv, hm⟩ := I.frzK hd
    obtain ⟨rfl, rfl⟩ := dict_ep hod hdt
    obtain ⟨⟨k, v⟩, hkv⟩ : ∃ p, kvs[i]? = some p := ⟨kvs[i], List.getElem?_eq_getElem hi⟩
    obtain ⟨u, hu, ru⟩ := kv_get kv hkv
    have hl : kvs.length = vs.length := Paired.length kv
    have he : ItG s.heap it d i vs.length ep' := hl ▸ st
    have hlt : it < s.heap.objs.size := by obtain ⟨_, _, _, _, _, e⟩ := he; exact Heap.lt_size e
    refine next_itemG he hm hu fun key h' hkey ho hT hz hk => ?_
    refine ⟨_, rfl, wpAny_pure ?_⟩
    have new : ObjOk X.prog X.w (upd H s.heap.objs.size (.tup [kV k, v])) h' s.heap.objs.size (.tup [kV k, v]) :=
      ⟨by show 2 ≤ sizeLine; decide, [key, u], .cons (relV_key (show keyIs k key = true from hkey)) (.cons ru .nil), ⟨_, hT, rfl, _, rfl⟩⟩
    have I1 : Inv X pins σ (upd H s.heap.objs.size (.tup [kV k, v])) { s with heap := h' } :=
      I.turnedNew (t' := s.toks) (ch := [it]) (fun b ob hb e => hk b ob (by simpa using hb) e) hf (Nat.le_refl _) new
    refine ⟨.ref s.heap.objs.size, _, I1, rfl, ⟨_, k, v, hkv, rfl, I.hok.fresh (Nat.le_refl _), rfl⟩, ?_, fun b hb => ?_⟩
    · rw [hl]; exact ho
    · have e : b = it := by simpa using hb
      rw [e, upd_ne (Nat.ne_of_lt hlt)]
      exact (hf it (by simp)).1
  done := by
    intro X hP hw hK hc i pins s σ H E I hf st hg
    subst hP hw hK
    obtain ⟨hd, hi⟩ := hg
    obtain ⟨f0, f1, f2, f3, f4, f5⟩ := hf it (by simp)
    obtain ⟨hs, hgd, hx, es', ep', vs, hdt, hsz, kv, hm⟩ := I.frzK hd
    obtain ⟨rfl, rfl⟩ := dict_ep hod hdt
    have hl : kvs.length = vs.length := Paired.length kv
    have he : ItG s.heap it d i vs.length ep' := hl ▸ st
    exact next_endG (I.ok.hd hc) he hm (List.getElem?_eq_none (by omega)) fun h' eb => ⟨rfl, I.turned (t' := s.toks) (fun b ob hb e => eb b ob hb e) f0 f1 f3 f4 f5⟩
  self := fun A i s Q E st h => selfG st h
end
section
variable {X : Cx} {e : Expr} {td : TE} {apos cpos : Pos}
theorem pi_itemsN {x : Str} {tpos : Pos} (he : PE X e td) (hbase : attributeBase e "items" X.env (eval e X.env) = eval e X.env) (hline : (apos.endLine == cpos.line) = true) :
    PI X (.Name x tpos) (.Call (.Attribute e "items" apos) [] [] cpos) (iItems td) := by
  refine ⟨fun pins s σ H R I h => ?_⟩
  refine wpAny_Call_method (T := "dict") (id := "dict.items") hbase rfl hline F.plainAttrs_dict F.slot_dict_items F.type_dict_items (thn (he.run pins s σ H _ I h) fun u s1 ⟨x0, H1, I1, rx, d, o, kvs, ex, hd, q⟩ => ?_)
  subst ex
  obtain rfl : u = Value.ref d := rx
  obtain ⟨hs, hgd, hx, es, ep, vs, hdt, hsz, kv, hm⟩ := I1.frzK hd
  have hl : kvs.length = vs.length := Paired.length kv
  refine ⟨hm.dictOf.typeIs, hm.dictOf.mapOf.noDict, ?_⟩
  have I2 : Inv X pins σ H1 { s1 with heap := s1.heap.push { cls := .type "dict_items", data := .fields #[.ref d] } } := I1.kept (t' := s1.toks) fun b ob q => Heap.get?_push_of_some _ q
  have fin : wpAny (model X.prog X.w) X.A (pyIter (.ref s1.heap.objs.size)) (PIE X pins σ (.Name x tpos) R) X.xe { s1 with heap := s1.heap.push { cls := .type "dict_items", data := .fields #[.ref d] } } := by
    refine wpAny_pyIter_items (d := d) (knd := mixKind X.prog X.w) ⟨_, Heap.get?_push_size _ rfl, rfl, rfl⟩ (hm.push _) (pi_one (tk := s1.toks) I2 _ (turn_itemsN _ hdt) ⟨.none, .bool false, .none, .none, .inl rfl, ?_⟩ q)
    rw [hl]
    exact Heap.get?_push_size _ rfl
  show wpAny _ _ (callWith cpos (.builtin "dict.items") [.ref d] [] []) _ X.xe s1
  exact method_meetsIn F.slot_dict_items F.entry_dict_items rfl (PySem.evalArgs_none ⟨rfl, hm.dictOf.typeIs, F.args_dict_items_1 _, _, meets_dict_items (mixKind X.prog X.w) d hs, ⟨vs, hm.dictOf⟩, fin⟩)
end
end CW

namespace CW
open PySem PySem.Spec PyProof.Rows L2
/-! ## 0h. == of dicts whose values are texts; sorted(d, reverse=True) -/
def strV : V → Bool
  | .str _ => true
  | _ => false
def eqDS (ks ls : List (Key × V)) : Bool := ks.length == ls.length && ks.all fun p => decide (valV ls p.1 = some p.2)
theorem hits_strs {A : Around} {s : Shared} {kvs : List (Key × V)} {vb : List (Key × Value)} (rb : KV kvs vb) (hb : ∀ k v, valV kvs k = some v → strV v = true) {ks : List (Key × V)} {va : List (Key × Value)} (ra : KV ks va) :
    (∀ p ∈ ks, strV p.2 = true) → PySem.W.KeqHits A s vb va (ks.all fun p => decide (valV kvs p.1 = some p.2)) := by
  unfold KV at ra
  induction ra with
  | nil => intro _; exact .nil
  | @cons p q ps qs h t ih =>
    intro hp
    obtain ⟨h1, h2⟩ := h
    obtain ⟨k, v⟩ := q
    obtain ⟨pk, pv⟩ := p
    obtain rfl : pk = k := h1
    have ih := ih fun p' hm => hp p' (List.mem_cons_of_mem _ hm)
    have hs := hp _ List.mem_cons_self
    cases pv with
    | str z =>
      obtain ⟨t1, rfl⟩ := (show ∃ t, v = Value.str z t from h2)
      have rr := rb.val pk
      rw [List.all_cons]
      cases e : valV kvs pk with
      | none =>
        rw [e] at rr
        cases e2 : valueAt vb pk with
        | none => rw [decide_eq_false (fun c => nomatch c), Bool.false_and]; exact .miss e2
        | some y => rw [e2] at rr; exact rr.elim
      | some x =>
        rw [e] at rr
        have hx := hb _ _ e
        cases x with
        | str z2 =>
          cases e2 : valueAt vb pk with
          | none => rw [e2] at rr; exact rr.elim
          | some y =>
            rw [e2] at rr
            obtain ⟨t2, rfl⟩ := (show ∃ t, y = Value.str z2 t from rr)
            have := PySem.W.KeqHits.hit (A := A) (s := s) (v := Value.str z t1) e2 (SeqAt.EqAt.str_str z t1 z2 t2) ih
            have e3 : (decide (some (V.str z2) = some (V.str z))) = (z == z2) := by
              by_cases c : z = z2
              · subst c; simp
              · rw [decide_eq_false (fun q => c (by cases q; rfl))]; exact (beq_eq_false_iff_ne.mpr c).symm
            rw [e3]
            exact this
        | _ => cases hx
    | _ => cases hs
def rEqDS : R2 := fun x y H Q => ∃ a b ks ls, x = .ref a ∧ y = .ref b ∧ H a = some (.dK ks) ∧ H b = some (.dK ls) ∧ (∀ p ∈ ks, strV p.2 = true) ∧ (∀ k v, valV ls k = some v → strV v = true) ∧ Q (.bl (eqDS ks ls)) H
def rNeDS : R2 := fun x y H Q => ∃ a b ks ls, x = .ref a ∧ y = .ref b ∧ H a = some (.dK ks) ∧ H b = some (.dK ls) ∧ (∀ p ∈ ks, strV p.2 = true) ∧ (∀ k v, valV ls k = some v → strV v = true) ∧ Q (.bl (!eqDS ks ls)) H
section
variable {X : Cx}
theorem op_eqDS (hu : X.A.units < cLine) : OpR X (compareOp .Eq) rEqDS := by
  intro pins s σ H x y v u Q I rx ry h
  obtain ⟨a, b, ks, ls, rfl, rfl, ea, eb, h1, h2, q⟩ := h
  obtain rfl : v = Value.ref a := rx
  obtain rfl : u = Value.ref b := ry
  obtain ⟨_, ya, va, ra, da⟩ := (show ObjOk X.prog X.w H s.heap a (.dK ks) from I.hok a _ ea)
  obtain ⟨_, yb, vb, rb, db⟩ := (show ObjOk X.prog X.w H s.heap b (.dK ls) from I.hok b _ eb)
  refine PySem.W.keq_eq (knd := mixKind X.prog X.w) ya yb da db hu (fun _ => hits_strs rb h2 ra h1) (fin_bl I q ?_)
  unfold eqDS
  rw [← ra.length, ← rb.length]
theorem op_neDS (hu : X.A.units < cLine) : OpR X (compareOp .NotEq) rNeDS := by
  intro pins s σ H x y v u Q I rx ry h
  obtain ⟨a, b, ks, ls, rfl, rfl, ea, eb, h1, h2, q⟩ := h
  obtain rfl : v = Value.ref a := rx
  obtain rfl : u = Value.ref b := ry
  obtain ⟨_, ya, va, ra, da⟩ := (show ObjOk X.prog X.w H s.heap a (.dK ks) from I.hok a _ ea)
  obtain ⟨_, yb, vb, rb, db⟩ := (show ObjOk X.prog X.w H s.heap b (.dK ls) from I.hok b _ eb)
  refine PySem.W.keq_ne (knd := mixKind X.prog X.w) ya yb da db hu (fun _ => hits_strs rb h2 ra h1) (fin_bl I q ?_)
  unfold eqDS
  rw [← ra.length, ← rb.length]
end
def rSRev (x : V) (H : Hp) (Q : VK) : Prop := ∃ (a : Addr) (kvs : List (Key × V)) (ks : List Int), x = .ref a ∧ Rd H a (.dK kvs) ∧ kvs.map (·.1) = ks.map Sum.inl ∧ ks.length ≤ 1000 ∧ ∀ (ys : List Int) (p : Addr), ys.Perm ks → ys.Pairwise (· ≥ ·) → H p = none → Q (.ref p) (upd H p (.lst (ys.map V.int)))
end CW

namespace CW
open PySem PySem.Spec PyProof.Rows L2
/-! ## 2. Rules by values -/
/-- the text z, n times -/
def strRep (z : Str) (n : Int) : Str := if n < 1 then Str.empty else if (n == 1 || z.length == 0) = true then z else ⟨(List.replicate n.toNat z.cps).foldl (· ++ ·) #[]⟩
def rBin (K : PySem.W.Frag) (op : Operator) : R2 := fun x y H Q => match op, x, y with
  | .Add, .int i, .int j => Q (.int (i + j)) H
  | .Add, .str i, .str j => i.length + j.length ≤ sizeLine ∧ Q (.str (i ++ j)) H
  | .Add, .ref a, .ref b => rCat (.ref a) (.ref b) H Q ∨ rCatA K (.ref a) (.ref b) H Q
  | .Sub, .int i, .int j => Q (.int (i - j)) H
  | .Mult, .int i, .int j => CMul i j ∧ Q (.int (i * j)) H
  | .Mult, .str z, .int n => (n < 1000000 ∧ -1000000 < n ∧ z.length * n.toNat ≤ sizeLine) ∧ Q (.str (strRep z n)) H
  | .Mult, .ref a, .int k => rRep (.ref a) (.int k) H Q
  | .Mod, .int i, .int j => 0 < j ∧ Q (.int (i % j)) H
  | .FloorDiv, .int i, .int j => CDiv i j ∧ Q (.int (i / j)) H
  | .Pow, .int i, .int j => CPow i j ∧ Q (.int (i ^ j.toNat)) H
  | .LShift, .int i, .int j => CPow i j ∧ Q (.int (i * 2 ^ j.toNat)) H
  | _, _, _ => False
section
variable {X : Cx}
theorem op_mulS : OpR X (binaryOp .Mult) (fun x y H Q => ∃ z n, x = .str z ∧ y = .int n ∧ (n < 1000000 ∧ -1000000 < n ∧ z.length * n.toNat ≤ sizeLine) ∧ Q (.str (strRep z n)) H) := by
  intro pins s σ H x y v u Q I rx ry h
  obtain ⟨z, n, rfl, rfl, ⟨h1, h2, h3⟩, q⟩ := h
  obtain ⟨t, rfl⟩ := rx
  obtain ⟨t', rfl⟩ := ry
  have hz : z.length ≤ sizeLine ∨ n < 1 := by
    by_cases c : n < 1
    · exact .inr c
    · left
      have : 1 ≤ n.toNat := by omega
      exact Nat.le_trans (Nat.le_mul_of_pos_right _ this) h3
  have hs : (sizeLine : Nat) = 16777216 := sizeLine_eq
  refine P.mul_str ?_ ?_ ?_ ?_
  · have e1 : decide (n < -(2 ^ 63 : Int)) = false := decide_eq_false (by omega)
    have e2 : decide (n ≥ 2 ^ 63) = false := decide_eq_false (by omega)
    rw [e1, e2]; rfl
  · intro c _ g
    have hz' : z.length ≤ sizeLine := by rcases hz with z | z; exact z; exact absurd z c
    have : (2 ^ 63 - 1) / n ≥ (2 ^ 63 - 1) / 1000000 := by
      apply Int.le_ediv_of_mul_le (by omega)
      have : (2 ^ 63 - 1 : Int) / 1000000 * n ≤ (2 ^ 63 - 1 : Int) / 1000000 * 1000000 := Int.mul_le_mul_of_nonneg_left (by omega) (by decide)
      have e : (2 ^ 63 - 1 : Int) / 1000000 * 1000000 ≤ 2 ^ 63 - 1 := by decide
      omega
    have e : (2 ^ 63 - 1 : Int) / 1000000 = 9223372036854 := by decide
    omega
  · intro _ _
    unfold Builtin.Str.tooLong
    exact decide_eq_false (by omega)
  · unfold strRep at q
    by_cases c : n < 1
    · rw [if_pos c] at q ⊢
      exact ⟨by decide, .str Str.empty, H, I.tok _, ⟨_, rfl⟩, q⟩
    · rw [if_neg c] at q ⊢
      by_cases c2 : (n == 1 || z.length == 0) = true
      · rw [if_pos c2] at q ⊢
        exact ⟨.str z, H, I, ⟨_, rfl⟩, q⟩
      · rw [if_neg c2] at q ⊢
        refine ⟨?_, .str _, H, I.tok _, ⟨_, rfl⟩, q⟩
        have : ∀ (k : Nat) (acc : Array Nat), ((List.replicate k z.cps).foldl (· ++ ·) acc).size = acc.size + z.cps.size * k := by
          intro k
          induction k with
          | zero => intro acc; simp
          | succ k ih => intro acc; rw [List.replicate_succ, List.foldl_cons, ih, Array.size_append, Nat.mul_succ]; omega
        show ((List.replicate n.toNat z.cps).foldl (· ++ ·) #[]).size ≤ sizeLine
        rw [this]
        simpa [Str.length] using h3
theorem bin_ok (op : Operator) : OpR X (binaryOp op) (rBin X.K op) := by
  intro pins s σ H x y v u Q I rx ry h
  unfold rBin at h
  split at h
  · exact op_add pins s σ H _ _ v u Q I rx ry ⟨_, _, rfl, rfl, h⟩
  · exact op_add_str pins s σ H _ _ v u Q I rx ry ⟨_, _, rfl, rfl, h⟩
  · rcases h with h | h
    · exact op_cat pins s σ H _ _ v u Q I rx ry h
    · exact op_catA pins s σ H _ _ v u Q I rx ry h
  · exact op_sub pins s σ H _ _ v u Q I rx ry ⟨_, _, rfl, rfl, h⟩
  · exact op_mul pins s σ H _ _ v u Q I rx ry ⟨_, _, rfl, rfl, h⟩
  · exact op_mulS pins s σ H _ _ v u Q I rx ry ⟨_, _, rfl, rfl, h⟩
  · exact op_rep pins s σ H _ _ v u Q I rx ry h
  · exact op_mod pins s σ H _ _ v u Q I rx ry ⟨_, _, rfl, rfl, h⟩
  · exact op_fdiv pins s σ H _ _ v u Q I rx ry ⟨_, _, rfl, rfl, h⟩
  · exact op_pow pins s σ H _ _ v u Q I rx ry ⟨_, _, rfl, rfl, h⟩
  · exact op_shl pins s σ H _ _ v u Q I rx ry ⟨_, _, rfl, rfl, h⟩
  · exact h.elim
def rUn (op : UnaryOp) : V → Hp → VK → Prop := fun x H Q => match op, x with
  | .USub, .int i => Q (.int (-i)) H
  | _, _ => False
theorem un_ok (op : UnaryOp) : UnR X (unaryOp op) (rUn op) := by
  intro pins s σ H x v Q I rx h
  unfold rUn at h
  split at h
  · exact un_neg pins s σ H _ v Q I rx ⟨_, rfl, h⟩
  · exact h.elim
/-- a comparison -/
def rCmp (K : PySem.W.Frag) (op : CmpOp) : R2 := fun x y H Q => match op, x, y with
  | .Eq, .ref a, y => rEqD K (.ref a) y H Q
  | .Eq, x, .ref b => rEqD K x (.ref b) H Q
  | .Eq, .bl b, .int i => rEqD K (.bl b) (.int i) H Q
  | .Eq, .int i, .bl b => rEqD K (.int i) (.bl b) H Q
  | .Eq, x, y => rEq x y H Q
  | .NotEq, .ref a, y => rNeD K (.ref a) y H Q
  | .NotEq, x, .ref b => rNeD K x (.ref b) H Q
  | .NotEq, .bl b, .int i => rNeD K (.bl b) (.int i) H Q
  | .NotEq, .int i, .bl b => rNeD K (.int i) (.bl b) H Q
  | .NotEq, x, y => rNe x y H Q
  | .Lt, .int i, .int j => Q (.bl (decide (i < j))) H
  | .LtE, .int i, .int j => Q (.bl (decide (i ≤ j))) H
  | .Gt, .int i, .int j => Q (.bl (decide (j < i))) H
  | .GtE, .int i, .int j => Q (.bl (decide (j ≤ i))) H
  | .Lt, .str i, .str j => Q (.bl (decide (i.cps.toList < j.cps.toList))) H
  | .In, .str i, .str j => (∃ c, i = ⟨#[c]⟩ ∧ Q (.bl (decide (c ∈ j.cps.toList))) H)
  | .NotIn, .str i, .str j => (∃ c, i = ⟨#[c]⟩ ∧ Q (.bl (!decide (c ∈ j.cps.toList))) H)
  | .In, x, .ref p => rIn K false x (.ref p) H Q ∨ rInD K x (.ref p) H Q ∨ ∃ o, DGet H p x o ∧ Q (.bl o.isSome) H
  | .NotIn, x, .ref p => rIn K true x (.ref p) H Q ∨ rNotInD K x (.ref p) H Q ∨ ∃ o, DGet H p x o ∧ Q (.bl (!o.isSome)) H
  | .Is, x, .non => Q (.bl (decide (x = .non))) H
  | .IsNot, x, .non => Q (.bl (!decide (x = .non))) H
  | _, _, _ => False
theorem cmp_ok (hu : X.A.units + 65 < cLine) (op : CmpOp) : OpR X (compareOp op) (rCmp X.K op) := by
  intro pins s σ H x y v u Q I rx ry h
  have hu4 : X.A.units + 64 < cLine := by omega
  unfold rCmp at h
  split at h
  · exact op_eqD hu4 pins s σ H _ _ v u Q I rx ry h
  · exact op_eqD hu4 pins s σ H _ _ v u Q I rx ry h
  · exact op_eqD hu4 pins s σ H _ _ v u Q I rx ry h
  · exact op_eqD hu4 pins s σ H _ _ v u Q I rx ry h
  · exact op_eq pins s σ H _ _ v u Q I rx ry h
  · exact op_neD hu4 pins s σ H _ _ v u Q I rx ry h
  · exact op_neD hu4 pins s σ H _ _ v u Q I rx ry h
  · exact op_neD hu4 pins s σ H _ _ v u Q I rx ry h
  · exact op_neD hu4 pins s σ H _ _ v u Q I rx ry h
  · exact op_ne pins s σ H _ _ v u Q I rx ry h
  · exact op_lt pins s σ H _ _ v u Q I rx ry ⟨_, _, rfl, rfl, h⟩
  · exact op_le pins s σ H _ _ v u Q I rx ry ⟨_, _, rfl, rfl, h⟩
  · exact op_gt pins s σ H _ _ v u Q I rx ry ⟨_, _, rfl, rfl, h⟩
  · exact op_ge pins s σ H _ _ v u Q I rx ry ⟨_, _, rfl, rfl, h⟩
  · exact op_lt_str pins s σ H _ _ v u Q I rx ry ⟨_, _, rfl, rfl, h⟩
  · obtain ⟨c, rfl, h⟩ := h
    exact op_in_sign pins s σ H _ _ v u Q I rx ry ⟨_, _, rfl, rfl, h⟩
  · obtain ⟨c, rfl, h⟩ := h
    exact op_notIn_sign pins s σ H _ _ v u Q I rx ry ⟨_, _, rfl, rfl, h⟩
  · rcases h with h | h | ⟨o, g, q⟩
    · exact op_in_seq pins s σ H _ _ v u Q I rx ry h
    · exact op_inD hu pins s σ H _ _ v u Q I rx ry h
    · cases ry
      exact d_in (by omega) I g rx fun s3 I3 => ⟨.bl o.isSome, H, I3, rfl, q⟩
  · rcases h with h | h | ⟨o, g, q⟩
    · exact op_notIn_seq pins s σ H _ _ v u Q I rx ry h
    · exact op_notInD hu pins s σ H _ _ v u Q I rx ry h
    · cases ry
      exact d_notIn (by omega) I g rx fun s3 I3 => ⟨.bl (!o.isSome), H, I3, rfl, q⟩
  · exact op_isN pins s σ H _ _ v u Q I rx ry ⟨rfl, h⟩
  · exact op_notN pins s σ H _ _ v u Q I rx ry ⟨rfl, h⟩
  · exact h.elim
/-- truth -/
def rTru (K : PySem.W.Frag) (x : V) (H : Hp) (Q : Bool → Hp → Prop) : Prop := match x with
  | .non => Q false H
  | .bl b => Q b H
  | .int i => Q (i != 0) H
  | .str z => z.length ≤ sizeLine ∧ Q ((z.length : Int) != 0) H
  | .ref a => ∃ k, TruV K (.ref a) H k ∧ Q k H
  | _ => False
theorem tru_of {K : PySem.W.Frag} {x : V} {H : Hp} {Q : Bool → Hp → Prop} (h : rTru K x H Q) : ∃ k, TruV K x H k ∧ Q k H := by
  cases x with
  | non => exact ⟨false, rfl, h⟩
  | bl b => exact ⟨b, rfl, h⟩
  | int i => exact ⟨_, rfl, h⟩
  | str z => exact ⟨_, ⟨h.1, rfl⟩, h.2⟩
  | ref a => exact h
  | byt b => exact h.elim
  | flt b => exact h.elim
  | ty n => exact h.elim
end
end CW

namespace CW
open PySem PySem.Spec PyProof.Rows L2
/-! ## 3. Items, slices, built-ins -/
/-- an item -/
def rSub (K : PySem.W.Frag) : R2 := fun x y H Q => match x, y with
  | .str z, .int i => (z.length ≤ sizeLine ∧ ∃ c, atI z.cps.toList i = some c ∧ Q (.str ⟨#[c]⟩) H)
  | .ref p, y => rIxL K (.ref p) y H Q ∨ rIxT K (.ref p) y H Q ∨ ∃ v, DGet H p y (some v) ∧ Q v H
  | _, _ => False
section
variable {X : Cx}
theorem ix_dict (hu : X.A.units + 1 < cLine) : IxR X (fun x y H Q => ∃ p v, x = .ref p ∧ DGet H p y (some v) ∧ Q v H) := by
  intro value slice pins s σ H x y v u Q I rx ry h hs
  obtain ⟨p, z, rfl, g, q⟩ := h
  obtain rfl : v = Value.ref p := rx
  exact tail_any (dict_typeIs I g) PySem.F.slot_dict_getitem.lookup (d_getItem hu I g ry fun w' s3 I3 rw' => ⟨z, H, I3, rw', q⟩) hs
theorem sub_ok (hu : X.A.units + 1 < cLine) : IxR X (rSub X.K) := by
  intro value slice pins s σ H x y v u Q I rx ry h hs
  unfold rSub at h
  split at h
  · obtain ⟨h1, c, h2, q⟩ := h
    exact ix_str value slice pins s σ H _ _ v u Q I rx ry ⟨_, _, c, rfl, rfl, h1, h2, q⟩ hs
  · rcases h with h | h | ⟨w, g, q⟩
    · exact ix_list value slice pins s σ H _ _ v u Q I rx ry h hs
    · exact ix_tup value slice pins s σ H _ _ v u Q I rx ry h hs
    · exact ix_dict hu value slice pins s σ H _ _ v u Q I rx ry ⟨_, w, rfl, g, q⟩ hs
  · exact h.elim
/-- a slice -/
def rSlc (K : PySem.W.Frag) : V → Option Int → Option Int → Hp → VK → Prop := fun x lo hi H Q => match x with
  | .str z => z.length ≤ sizeLine ∧ Q (.str (cutS z lo hi)) H
  | .ref p => rSlL K (.ref p) lo hi H Q
  | _ => False
theorem slc_ok : SlR X (rSlc X.K) := by
  intro pins s σ H x v vl vu lo hi sl Q I rx hs pl pu h
  unfold rSlc at h
  split at h
  · exact sl_str pins s σ H _ v vl vu lo hi sl Q I rx hs pl pu ⟨_, rfl, h⟩
  · exact sl_list pins s σ H _ v vl vu lo hi sl Q I rx hs pl pu h
  · exact h.elim
/-- o[i] = v -/
def rSet : TSet := fun o i v H Q => (∃ p xs j k, o = .ref p ∧ i = .int j ∧ H p = some (.lst xs) ∧ ixN xs.length j = some k ∧ Q (upd H p (.lst (xs.set k v)))) ∨
  ∃ p H', o = .ref p ∧ DPut H p i v H' ∧ Q H'
theorem set_ok (hu : X.A.units + 1 < cLine) : PSet X rSet := by
  intro pins s σ H o i v ov iv u Q I ro ri rv h
  rcases h with ⟨p, xs, j, k, rfl, rfl, hp, hk, q⟩ | ⟨p, H', rfl, g, q⟩
  · exact set_list pins s σ H _ _ _ ov iv u Q I ro ri rv ⟨p, xs, j, k, rfl, rfl, hp, hk, q⟩
  · obtain rfl : ov = Value.ref p := ro
    exact d_setItem hu I g ri rv fun s4 I4 => ⟨H', I4, q⟩
/-! ### data and their text -/
/-- a dict of scalars -/
def flatD : V → Option PyData
  | .non => some .none
  | .bl b => some (.bool b)
  | .int i => some (.int i)
  | .str x => some (.str x)
  | _ => none
def keyD : Key → PyData
  | .inl i => .int i
  | .inr x => .str x
def flatKv : List (Key × V) → Option (List (PyData × PyData))
  | [] => some []
  | (k, v) :: r => match flatD v, flatKv r with
    | some d, some ds => some ((keyD k, d) :: ds)
    | _, _ => none
theorem flatD_reads {h : Heap} {v : V} {u : Value} {d : PyData} (e : flatD v = some d) (r : RelV v u) : Reads h u d [] := by
  cases v with
  | non => cases e; obtain rfl : u = _ := r; exact .none
  | bl b => cases e; obtain rfl : u = _ := r; exact .bool b
  | int i => cases e; obtain ⟨t, rfl⟩ := r; exact .int i t
  | str x => cases e; obtain ⟨t, rfl⟩ := r; exact .str x t
  | byt b => cases e
  | flt b => cases e
  | ref a => cases e
  | ty n => cases e
theorem keyD_reads {h : Heap} {k : Key} {u : Value} (e : keyIs k u = true) : Reads h u (keyD k) [] := by
  rcases keyIs_shape e with ⟨i, t, rfl, rfl⟩ | ⟨x, t, rfl, rfl⟩
  · exact .int i t
  · exact .str x t
theorem flatKv_reads {P : Program} {w : World} {h : Heap} : ∀ {kvs : List (Key × V)} {vs : List (Key × Value)} {es : List DictEntry} {ds : List (PyData × PyData)}, flatKv kvs = some ds → KV kvs vs → Pairs (mixKind P w) es vs →
    ReadsAll h (es.map (·.key)) (ds.map (·.1)) [] ∧ ReadsAll h (es.map (·.val)) (ds.map (·.2)) []
  | [], _, _, _, e, .nil, .nil => by cases e; exact ⟨.nil, .nil⟩
  | (k, v) :: r, _, _, _, e, .cons r1 r2, .cons p1 p2 p3 => by
    unfold flatKv at e
    split at e
    · rename_i d ds e1 e2
      cases e
      obtain ⟨a1, a2⟩ := flatKv_reads (P := P) (w := w) (h := h) e2 r2 p3
      have ek : k = _ := r1.1
      subst ek
      have b1 := ReadsAll.cons (keyD_reads (h := h) p1) a1
      have rv := r1.2
      rw [← p2] at rv
      have b2 := ReadsAll.cons (flatD_reads (h := h) e1 rv) a2
      exact ⟨b1, b2⟩
    · cases e
def rRepr (K : PySem.W.Frag) : V → Hp → VK → Prop := fun x H Q =>
  (∃ d, Dp K H x d ∧ d.showable = true ∧ d.depth ≤ 60 ∧ d.shown.length ≤ sizeLine ∧ Q (.str d.shown) H) ∨
  (∃ a kvs ds, x = .ref a ∧ H a = some (.dK kvs) ∧ flatKv kvs = some ds ∧ (PyData.dict ds).showable = true ∧ (PyData.dict ds).depth ≤ 60 ∧ (PyData.dict ds).shown.length ≤ sizeLine ∧ Q (.str (PyData.dict ds).shown) H)
theorem dp_noDict {K : PySem.W.Frag} {H : Hp} : ∀ (d : PyData) (v : V), Dp K H v d → d.hasDict = false
  | .none, _, _ => by simp only [PyData.hasDict]
  | .bool _, _, _ => by simp only [PyData.hasDict]
  | .int _, _, _ => by simp only [PyData.hasDict]
  | .str _, _, _ => by simp only [PyData.hasDict]
  | .list ds, _, h => by
    cases h with
    | lst _ ha => simp only [PyData.hasDict]; exact go ds _ ha
  | .tuple ds, _, h => by
    cases h with
    | tup _ ha => simp only [PyData.hasDict]; exact go ds _ ha
  | .dict _, _, h => by cases h
where
  go : ∀ (ds : List PyData) (vs : List V), DpAll K H vs ds → PyData.hasDictAll ds = false
  | [], _, _ => by simp only [PyData.hasDictAll]
  | d :: ds, _, h => by
    cases h with
    | cons h1 h2 =>
      simp only [PyData.hasDictAll, Bool.or_eq_false_iff]
      exact ⟨dp_noDict d _ h1, go ds _ h2⟩
theorem repr_ok (hg : X.A.guards = some []) (hu : X.A.units + 64 < cLine) : CallR X (.builtin "repr") (fun xs H Q => ∃ x, xs = [x] ∧ rRepr X.K x H Q) := by
  intro pins s σ H xs us Q I r h
  obtain ⟨x, rfl, h⟩ := h
  obtain ⟨u, rfl, ru⟩ := vals1 r
  rcases h with ⟨d, hd, hs, hp, hz, q⟩ | ⟨a, kvs, ds, rfl, ha, hf, hs, hp, hz, q⟩
  · obtain ⟨as, rd⟩ := Dp.reads I d x u hd ru
    cases rd with
    | none => exact PySem.P.repr_of_none ⟨.str _, H, I.tok _, ⟨_, rfl⟩, by simpa only [PyData.shown] using q⟩
    | bool b => exact PySem.P.repr_of_bool ⟨.str _, H, I.tok _, ⟨_, rfl⟩, by simpa only [PyData.shown] using q⟩
    | int i t => exact PySem.P.repr_of_int (by simpa [PyData.showable] using hs) ⟨.str _, H, I.tok _, ⟨_, rfl⟩, by simpa only [PyData.shown] using q⟩
    | str z t => exact PySem.P.repr_of_str ⟨.str _, H, I.tok _, ⟨_, rfl⟩, by simpa only [PyData.shown] using q⟩ (by simpa only [PyData.shown] using hz)
    | list h1 h2 h3 h4 => exact repr_of_reads' (.list h1 h2 h3 h4) hs (PyData.noDict_hsm (dp_noDict _ _ hd)) hg (by omega) (fun _ _ e => e) (fun h' tk tk' hk => ⟨.str _, H, I.kept hk, ⟨_, rfl⟩, q⟩) hz
    | tuple h1 h2 h3 h4 => exact repr_of_reads' (.tuple h1 h2 h3 h4) hs (PyData.noDict_hsm (dp_noDict _ _ hd)) hg (by omega) (fun _ _ e => e) (fun h' tk tk' hk => ⟨.str _, H, I.kept hk, ⟨_, rfl⟩, q⟩) hz
    | dict h1 h2 h3 h4 h5 => cases hd
  · obtain rfl : u = Value.ref a := ru
    obtain ⟨_, na, vs, kv, o, es, ep, ho, hx, hdt, _, prs, _⟩ := I.hok a _ ha
    obtain ⟨k1, k2⟩ := flatKv_reads (h := s.heap) hf kv prs
    have rd : Reads s.heap (.ref a) (.dict ds) (a :: [] ++ []) := .dict ho hx.1 hdt k1 k2
    refine repr_of_reads' rd hs (fun _ hm => ?_) hg (by omega) (fun _ _ e => e) (fun h' tk tk' hk => ⟨.str _, H, I.kept hk, ⟨_, rfl⟩, q⟩) hz
    have e : sysModules = a := by simpa using hm
    rw [← e] at na
    simp at na
end
end CW

namespace CW
open PySem PySem.Spec PyProof.Rows L2
/-! ## 4. Built-ins by name -/
inductive Ty where | int | bool | str | list | tuple | dict
  deriving DecidableEq
def Ty.nm : Ty → String
  | .int => "int" | .bool => "bool" | .str => "str" | .list => "list" | .tuple => "tuple" | .dict => "dict"
/-- the kind of a thing at an address -/
def TyR (K : PySem.W.Frag) (H : Hp) (p : Addr) (t : Ty) : Prop := TyX K H (.ref p) (.type t.nm)
def inTys (k : V) : List Ty → Bool
  | [] => false
  | t :: r => (match k, t with | .int _, .int => true | .bl _, .int => true | .bl _, .bool => true | .str _, .str => true | _, _ => false) || inTys k r
def inTyR (k : Ty) : List Ty → Bool
  | [] => false
  | t :: r => decide (k = t) || inTyR k r
def rIsA (K : PySem.W.Frag) (ts : List Ty) : V → Hp → VK → Prop := fun x H Q => match x with
  | .ref p => ∃ t, (t = .list ∨ t = .tuple ∨ t = .dict) ∧ TyR K H p t ∧ Q (.bl (inTyR t ts)) H
  | .non => Q (.bl (inTys .non ts)) H
  | .bl b => Q (.bl (inTys (.bl b) ts)) H
  | .int i => Q (.bl (inTys (.int i) ts)) H
  | .str z => Q (.bl (inTys (.str z) ts)) H
  | _ => False
inductive Bi where | len | abs | max | min | int | str | repr | all | any | divmod | list | tuple | sum | sorted
  deriving DecidableEq
def Bi.val : Bi → Value
  | .len => .builtin "len" | .abs => .builtin "abs" | .max => .builtin "max" | .min => .builtin "min" | .int => .type "int" | .str => .type "str" | .repr => .builtin "repr"
  | .all => .builtin "all" | .any => .builtin "any" | .divmod => .builtin "divmod" | .list => .type "list" | .tuple => .type "tuple" | .sum => .builtin "sum" | .sorted => .builtin "sorted"
def rBi (K : PySem.W.Frag) (b : Bi) (xs : List V) (H : Hp) (Q : VK) : Prop := match b, xs with
  | .len, [.str z] => z.length ≤ sizeLine ∧ Q (.int z.length) H
  | .len, [.ref p] => (∃ ys, SqL K H p ys ∧ Q (.int ys.length) H) ∨ (∃ ys, SqT K H p ys ∧ Q (.int ys.length) H) ∨ ∃ kvs, H p = some (.dK kvs) ∧ Q (.int kvs.length) H
  | .abs, [.int i] => Q (.int (if i < 0 then -i else i)) H
  | .max, [.int i, .int j] => Q (.int (if j > i then j else i)) H
  | .min, [.int i, .int j] => Q (.int (if j < i then j else i)) H
  | .int, [.int i] => Q (.int i) H
  | .int, [.bl k] => Q (.int (if k then 1 else 0)) H
  | .int, [.str a] => ∃ n, PySem.intText? a = some n ∧ a.length ≤ 640 ∧ Q (.int n) H
  | .str, [.int i] => i.natAbs.log2 < 1920 ∧ Q (.str (toString i)) H
  | .str, [.str a] => Q (.str a) H
  | .repr, [x] => rRepr K x H Q
  | .all, [.ref a] => ∃ bs : List Bool, SqL K H a (bs.map V.bl) ∧ Q (.bl (bs.all id)) H
  | .any, [.ref a] => ∃ bs : List Bool, SqL K H a (bs.map V.bl) ∧ Q (.bl (bs.any id)) H
  | .divmod, [.int i, .int j] => CDiv i j ∧ ∀ p, H p = none → Q (.ref p) (upd H p (.tup [.int (i / j), .int (i % j)]))
  | .list, [.ref p] => ∃ ys, (SqL K H p ys ∨ SqT K H p ys) ∧ ∀ l, H l = none → Q (.ref l) (upd H l (.lst ys))
  | .tuple, [.ref p] => ∃ ys, (SqL K H p ys ∧ ∀ l, H l = none → Q (.ref l) (upd H l (.tup ys))) ∨ (SqT K H p ys ∧ Q (.ref p) H)
  | .sum, [.ref p] => ∃ ns : List Int, SqL K H p (ns.map V.int) ∧ Q (.int ns.sum) H
  | .sorted, [.ref p] => (∃ xs : List Str, SqL K H p (xs.map V.str) ∧ ∀ (ys : List Str) (q : Addr), ys.Perm xs → sortedS ys = true → H q = none → Q (.ref q) (upd H q (.lst (ys.map V.str)))) ∨ rSorted K [.ref p] H Q ∨
    ∃ (kvs : List (Key × V)) (ks : List Str), Rd H p (.dK kvs) ∧ kvs.map (·.1) = ks.map Sum.inr ∧ ks.length < 64 ∧ ∀ ys q, ys.Perm ks → sortedS ys = true → H q = none → Q (.ref q) (upd H q (.lst (ys.map V.str)))
  | _, _ => False
section
variable {X : Cx}
theorem len_dict : CallR X (.builtin "len") (fun xs H Q => ∃ d kvs, xs = [.ref d] ∧ H d = some (.dK kvs) ∧ Q (.int kvs.length) H) := call_lenD
theorem cr_sortStrs : CallR X (.builtin "sorted") (fun vs H Q => ∃ (a : Addr) (xs : List Str), vs = [V.ref a] ∧ SqL X.K H a (xs.map V.str) ∧ ∀ (ys : List Str) (p : Addr), ys.Perm xs → sortedS ys = true → H p = none → Q (.ref p) (upd H p (.lst (ys.map V.str)))) := by
  intro pins s σ H vs us Q I r h
  obtain ⟨a, xs, rfl, hs, q⟩ := h
  obtain ⟨its, rv, hl, hz⟩ := I.list hs
  rw [Vals.ref1 r]
  refine PyProof.Rows.sorted_strsAny hl.isList (vals_strs rv) (by rw [← rv.length]; exact hz) fun out ys h1 h2 h3 => ?_
  obtain ⟨ep, he'⟩ := PyProof.Rows.sortedAll_at s.heap its out
  have hlen : (ys.map V.str).length ≤ sizeLine := by rw [List.length_map] at hz ⊢; rw [h2.length_eq]; exact hz
  exact ⟨.ref _, upd H (s.heap.objs.size + 1) (.lst (ys.map V.str)), I.laid (t' := s.toks) (fun _ _ => PyProof.Rows.sortedAll_old) (Nat.le_succ _) ⟨hlen, out.toList, ep, strs_vals h1, he'⟩, rfl, q ys _ h2 h3 (I.hok.fresh (Nat.le_succ _))⟩
theorem bi_ok (hc : X.calm = true) (hg : X.A.guards = some []) (hu : X.A.units + 65 < cLine) (b : Bi) : CallR X b.val (rBi X.K b) := by
  intro pins s σ H xs us Q I r h
  have hu4 : X.A.units + 64 < cLine := by omega
  unfold rBi at h
  split at h
  · exact call_len pins s σ H _ us Q I r ⟨_, _, rfl, ⟨h.1, rfl⟩, h.2⟩
  · rcases h with ⟨ys, h1, h2⟩ | ⟨ys, h1, h2⟩ | ⟨kvs, h1, h2⟩
    · exact call_len pins s σ H _ us Q I r ⟨_, _, rfl, .inl ⟨_, h1, rfl⟩, h2⟩
    · exact call_len pins s σ H _ us Q I r ⟨_, _, rfl, .inr ⟨_, h1, rfl⟩, h2⟩
    · exact len_dict pins s σ H _ us Q I r ⟨_, _, rfl, h1, h2⟩
  · exact call_abs pins s σ H _ us Q I r ⟨_, rfl, h⟩
  · exact call_max2 hc pins s σ H _ us Q I r ⟨_, _, rfl, h⟩
  · exact call_min2 hc pins s σ H _ us Q I r ⟨_, _, rfl, h⟩
  · exact call_int1 pins s σ H _ us Q I r (.inl ⟨_, rfl, h⟩)
  · exact call_int1 pins s σ H _ us Q I r (.inr ⟨_, rfl, h⟩)
  · obtain ⟨n, h1, h2, h3⟩ := h
    exact call_int_str pins s σ H _ us Q I r ⟨_, n, rfl, h1, h2, h3⟩
  · exact call_str_int pins s σ H _ us Q I r ⟨_, rfl, h.1, h.2⟩
  · exact SkE.call_str_str pins s σ H _ us Q I r ⟨_, rfl, h⟩
  · exact repr_ok hg hu4 pins s σ H _ us Q I r ⟨_, rfl, h⟩
  · obtain ⟨bs, h1, h2⟩ := h
    exact cr_all hc pins s σ H _ us Q I r ⟨_, bs, rfl, h1, h2⟩
  · obtain ⟨bs, h1, h2⟩ := h
    exact cr_any hc pins s σ H _ us Q I r ⟨_, bs, rfl, h1, h2⟩
  · exact call_divmod pins s σ H _ us Q I r ⟨_, _, rfl, h.1, h.2⟩
  · obtain ⟨ys, h1, h2⟩ := h
    exact call_list_of pins s σ H _ us Q I r ⟨_, ys, rfl, h1, h2⟩
  · obtain ⟨ys, h1⟩ := h
    exact call_tuple_of pins s σ H _ us Q I r ⟨_, ys, rfl, h1⟩
  · obtain ⟨ns, h1, h2⟩ := h
    exact cr_sum hc pins s σ H _ us Q I r ⟨_, ns, rfl, h1, h2⟩
  · rcases h with ⟨xs, h1, h2⟩ | h | ⟨kvs, ks, h1, h2, h3, h4⟩
    · exact cr_sortStrs pins s σ H _ us Q I r ⟨_, xs, rfl, h1, h2⟩
    · exact cr_sorted pins s σ H _ us Q I r h
    · exact call_sortedD hc pins s σ H _ us Q I r ⟨_, kvs, ks, rfl, h1, h2, h3, h4⟩
  · exact h.elim
end
/-! ### isinstance -/
section
variable {X : Cx}
theorem kit1 {K : PySem.W.Frag} : ∀ t : Ty, PySem.W.kitOne K (.type "NoneType") (.type t.nm) = some false
  | .int => kit_ty (by decide +kernel) | .bool => kit_ty (by decide +kernel) | .str => kit_ty (by decide +kernel) | .list => kit_ty (by decide +kernel) | .tuple => kit_ty (by decide +kernel) | .dict => kit_ty (by decide +kernel)
theorem kit2 {K : PySem.W.Frag} : ∀ t : Ty, PySem.W.kitOne K (.type "int") (.type t.nm) = some (decide (t = .int))
  | .int => kit_ty (by decide +kernel) | .bool => kit_ty (by decide +kernel) | .str => kit_ty (by decide +kernel) | .list => kit_ty (by decide +kernel) | .tuple => kit_ty (by decide +kernel) | .dict => kit_ty (by decide +kernel)
theorem kit3 {K : PySem.W.Frag} : ∀ t : Ty, PySem.W.kitOne K (.type "bool") (.type t.nm) = some (decide (t = .int) || decide (t = .bool))
  | .int => kit_ty (by decide +kernel) | .bool => kit_ty (by decide +kernel) | .str => kit_ty (by decide +kernel) | .list => kit_ty (by decide +kernel) | .tuple => kit_ty (by decide +kernel) | .dict => kit_ty (by decide +kernel)
theorem kit4 {K : PySem.W.Frag} : ∀ t : Ty, PySem.W.kitOne K (.type "str") (.type t.nm) = some (decide (t = .str))
  | .int => kit_ty (by decide +kernel) | .bool => kit_ty (by decide +kernel) | .str => kit_ty (by decide +kernel) | .list => kit_ty (by decide +kernel) | .tuple => kit_ty (by decide +kernel) | .dict => kit_ty (by decide +kernel)
theorem kit5 {K : PySem.W.Frag} : ∀ t : Ty, PySem.W.kitOne K (.type "list") (.type t.nm) = some (decide (Ty.list = t))
  | .int => kit_ty (by decide +kernel) | .bool => kit_ty (by decide +kernel) | .str => kit_ty (by decide +kernel) | .list => kit_ty (by decide +kernel) | .tuple => kit_ty (by decide +kernel) | .dict => kit_ty (by decide +kernel)
theorem kit6 {K : PySem.W.Frag} : ∀ t : Ty, PySem.W.kitOne K (.type "tuple") (.type t.nm) = some (decide (Ty.tuple = t))
  | .int => kit_ty (by decide +kernel) | .bool => kit_ty (by decide +kernel) | .str => kit_ty (by decide +kernel) | .list => kit_ty (by decide +kernel) | .tuple => kit_ty (by decide +kernel) | .dict => kit_ty (by decide +kernel)
theorem kit7 {K : PySem.W.Frag} : ∀ t : Ty, PySem.W.kitOne K (.type "dict") (.type t.nm) = some (decide (Ty.dict = t))
  | .int => kit_ty (by decide +kernel) | .bool => kit_ty (by decide +kernel) | .str => kit_ty (by decide +kernel) | .list => kit_ty (by decide +kernel) | .tuple => kit_ty (by decide +kernel) | .dict => kit_ty (by decide +kernel)
/-- kinds by name -/
theorem isA_of {K : PySem.W.Frag} {H : Hp} {x : V} {ts : List Ty} {Q : VK} (h : rIsA K ts x H Q) : ∃ (T : String) (f : Ty → Bool), TyX K H x (.type T) ∧ (∀ t, PySem.W.kitOne K (.type T) (.type t.nm) = some (f t)) ∧ Q (.bl (ts.any f)) H := by
  have go : ∀ (v : V) (f : Ty → Bool), (∀ t, (match v, t with | .int _, .int => true | .bl _, .int => true | .bl _, .bool => true | .str _, .str => true | _, _ => false) = f t) → ∀ ts, inTys v ts = ts.any f := by
    intro v f hf ts
    induction ts with
    | nil => rfl
    | cons t r ih => unfold inTys; rw [List.any_cons, ih, hf t]
  cases x with
  | non => exact ⟨"NoneType", fun _ => false, .base .non, kit1, by rw [← go .non (fun _ => false) (fun t => by cases t <;> rfl) ts]; exact h⟩
  | bl b => exact ⟨"bool", _, .base (.bl b), kit3, by rw [← go (.bl b) _ (fun t => by cases t <;> rfl) ts]; exact h⟩
  | int i => exact ⟨"int", _, .base (.int i), kit2, by rw [← go (.int i) _ (fun t => by cases t <;> rfl) ts]; exact h⟩
  | str z => exact ⟨"str", _, .base (.str z), kit4, by rw [← go (.str z) _ (fun t => by cases t <;> rfl) ts]; exact h⟩
  | byt b => exact h.elim
  | flt b => exact h.elim
  | ty n => exact h.elim
  | ref p =>
    have go2 : ∀ (k : Ty) ts, inTyR k ts = ts.any fun t => decide (k = t) := by
      intro k ts
      induction ts with
      | nil => rfl
      | cons t r ih => unfold inTyR; rw [List.any_cons, ih]
    obtain ⟨t, ht, hx, q⟩ := h
    rw [go2] at q
    rcases ht with rfl | rfl | rfl
    · exact ⟨"list", _, hx, kit5, q⟩
    · exact ⟨"tuple", _, hx, kit6, q⟩
    · exact ⟨"dict", _, hx, kit7, q⟩
theorem kit_many {K : PySem.W.Frag} {T : String} {f : Ty → Bool} (h : ∀ t : Ty, PySem.W.kitOne K (.type T) (.type t.nm) = some (f t)) : ∀ ts : List Ty, PySem.W.kitAny K (.type T) (ts.map fun t => .type t.nm) = some (ts.any f)
  | [] => rfl
  | t :: r => kitAny_cons (h t) (fun _ => by rw [kit_many h r]; rw [List.any_cons]; rename_i e; rw [e]; rfl) (fun e => by rw [List.any_cons, e]; rfl)
end
end CW

namespace CW
open PySem PySem.Spec PyProof.Rows L2
/-! ## 5. The small language and its reading -/
/-- where a parameter's value comes from: the i-th written argument, the i-th keyword's, a default -/
inductive Ar where | p (i : Nat) | q (i : Nat) | d (v : V)
/-- methods of built-in kinds -/
inductive Mt where | append | join | startswith | extend | pop | clear
  deriving DecidableEq
/-- what is asked of an own class, and further built-ins -/
inductive OwnK where
  | att (fl : List Addr) (pr : List (Addr × Sp)) (co : List (Addr × V)) (nm : Str)
  | meth (opts : List (Addr × Sp × List Ar)) (nm : Str)
  | call (opts : List (Addr × Sp × List Ar))
  | make (C : Addr) (sp : Sp) (ar : List Ar)
  | bin (op : Operator) (opts : List (Addr × Sp × List Ar))
  | rbin (opts opts0 : List (Addr × Sp × List Ar))
  | sub (opts : List (Addr × Sp × List Ar))
  | len (opts : List (Addr × Sp × List Ar))
  | repr (opts : List (Addr × Sp × List Ar))
  | ds1
  | ds2
  | srev
  | dict
  | listD
  | listItems
inductive E where
  | c (v : V)
  | v (i : Nat)
  | bin (op : Operator) (a b : E)
  | un (op : UnaryOp) (a : E)
  | not (a : E)
  | and (a b : E)
  | or (a b : E)
  | ite (t a b : E)
  | cmp (op : CmpOp) (a b : E)
  | cmp2 (op op' : CmpOp) (a b c : E)
  | nil
  | cons (a r : E)
  | lst (as : E)
  | tup (as : E)
  | dct (ks vs : E)
  | sub (a i : E)
  | slc (a l h : E)
  | call (sp : Sp) (as ks : E) (ar : List Ar)
  | bi (b : Bi) (as : E)
  | bid (b : Bi) (l : E)
  | mt (m : Mt) (o as : E)
  | joind (o l : E)
  | isA (a : E) (ts : List Ty)
  | inT (neg : Bool) (a es : E)
  | lc (e t it cs : E) (own : List Nat)
  | rng1 (as : E)
  | rng2 (as : E)
  | rng3 (as : E)
  | enum (a : E)
  | rev (a : E)
  | it (a : E)
  | sortset (a : E)
  | dc (k v t it cs : E) (own : List Nat)
  | lkE (a : E)
  | items (a : E)
  | keys (a : E)
  | vals (a : E)
  | kd (a : E)
  | own (k : OwnK) (a as ks : E)
  | cmpO (op : CmpOp) (opts : List (Addr × Sp × List Ar)) (a b : E)
def lenE : E → Nat
  | .cons _ r => lenE r + 1
  | _ => 0
def dropA (H : Hp) (D : Addr) : Hp := fun b => if b = D then none else H b
/-- no exception -/
abbrev W0 : WX := fun _ _ _ _ => False
def arr (ar : List Ar) (vs zs : List V) : List V := ar.map fun
  | .p i => vs.getD i .non
  | .q i => zs.getD i .non
  | .d v => v
def rMt (K : PySem.W.Frag) (m : Mt) (x : V) (xs : List V) (H : Hp) (Q : VK) : Prop := match m, x, xs with
  | .append, .ref l, [y] => ∃ ys, H l = some (.lst ys) ∧ ys.length < sizeLine ∧ Q .non (upd H l (.lst (ys ++ [y])))
  | .join, .str a, [.ref p] => ∃ ys : List Str, (SqL K H p (ys.map V.str) ∨ SqT K H p (ys.map V.str)) ∧ (ys.map (·.length)).sum + ys.length * a.length ≤ 16777216 ∧ Q (.str (Txt.join a ys)) H
  | .startswith, .str a, [.str b] => Q (.bl (Txt.startswith a b)) H
  | .extend, .ref l, [.ref b] => ∃ xs zs, H l = some (.lst xs) ∧ H b = some (.lst zs) ∧ xs.length + zs.length ≤ sizeLine ∧ Q .non (upd H l (.lst (xs ++ zs)))
  | .pop, .ref l, [] => ∃ xs y, H l = some (.lst xs) ∧ xs[xs.length - 1]? = some y ∧ Q y (upd H l (.lst xs.dropLast))
  | .pop, .ref l, [.int i] => ∃ xs k y, H l = some (.lst xs) ∧ -(2 ^ 63) ≤ i ∧ i < 2 ^ 63 ∧ seqIndex? i xs.length = some k ∧ xs[k]? = some y ∧ Q y (upd H l (.lst (xs.eraseIdx k)))
  | .clear, .ref l, [] => ∃ xs, H l = some (.lst xs) ∧ Q .non (upd H l (.lst []))
  | _, _, _ => False
def mtTy (K : PySem.W.Frag) (m : Mt) (x : V) (H : Hp) : Prop := match m, x with
  | .append, .ref l => ∃ ys, H l = some (.lst ys)
  | .join, .str _ => True
  | .startswith, .str _ => True
  | .extend, .ref l => ∃ ys, H l = some (.lst ys)
  | .pop, .ref l => ∃ ys, H l = some (.lst ys)
  | .clear, .ref l => ∃ ys, H l = some (.lst ys)
  | _, _ => False
/-- what is walked, by its value -/
def iVal (K : PySem.W.Frag) (x : V) (H : Hp) (R : It → Hp → Prop) : Prop := match x with
  | .str z => R (Its z) H
  | .ref a => ((∃ xs, SqL K H a xs) ∧ R (Itl K a) H) ∨ ((∃ xs, SqT K H a xs) ∧ R (Itt K a) H)
  | _ => False
/-- e.f -/
def rAttr (fl : List Addr) (pr : List (Addr × Sp)) (co : List (Addr × V)) (nm : Str) (x : V) (H : Hp) (Q : VK) : Prop := ∃ a C dx fs, x = .ref a ∧ H a = some (.ins C dx fs) ∧
  ((C ∈ fl ∧ ∃ v, fs.lookup nm = some v ∧ Q v H) ∨ (∃ sp, (C, sp) ∈ pr ∧ sp [x] H Q fun _ _ _ => False) ∨ ∃ v, (C, v) ∈ co ∧ fs.lookup nm = none ∧ Q v H)
/-- o.m(..) of an own class -/
def rMeth (opts : List (Addr × Sp × List Ar)) (nm : Str) (x : V) (H : Hp) (R : Sp → List Ar → Prop) : Prop := ∃ a C dx fs sp ar, x = .ref a ∧ H a = some (.ins C dx fs) ∧ fs.lookup nm = none ∧ (C, sp, ar) ∈ opts ∧ R sp ar
/-- the instance at a, called -/
def rCallO (opts : List (Addr × Sp × List Ar)) (x : V) (H : Hp) (R : Addr → Addr → Sp → List Ar → Prop) : Prop := ∃ a C dx fs sp ar, x = .ref a ∧ H a = some (.ins C dx fs) ∧ (C, sp, ar) ∈ opts ∧ R a C sp ar
/-- a method of the instance y told of the values vs, no keywords -/
def rOwn (opts : List (Addr × Sp × List Ar)) (y : V) (vs : List V) (σ : L2.St) (W : WX) (H : Hp) (Q : VK) : Prop := ∃ a C dx fs sp ar, y = .ref a ∧ H a = some (.ins C dx fs) ∧ (C, sp, ar) ∈ opts ∧ sp (arr ar (y :: vs) []) H Q fun cls d H' => W cls d σ H'
def rOwnF (opts : List (Addr × Sp × List Ar)) (y : V) (vs : List V) (H : Hp) (Q : VK) : Prop := ∃ a C dx fs sp ar, y = .ref a ∧ H a = some (.ins C dx fs) ∧ (C, sp, ar) ∈ opts ∧ sp (arr ar (y :: vs) []) H Q fun _ _ _ => False
/-- the type of the right side does not come first -/
def notSub (K : PySem.W.Frag) (C : Addr) (H : Hp) (y : V) : Prop := ∃ t, TyX K H y t ∧ PySem.W.notFirst K C t = true
def rCmpO (K : PySem.W.Frag) (op : CmpOp) (opts : List (Addr × Sp × List Ar)) : R2 := fun x y H Q => match op with
  | .In => rOwnF opts y [x] H fun r H' => ∃ k, r = .bl k ∧ Q (.bl k) H'
  | .NotIn => rOwnF opts y [x] H fun r H' => ∃ k, r = .bl k ∧ Q (.bl (!k)) H'
  | .NotEq => rNeDS x y H Q
  | .Eq => rEqDS x y H Q ∨ ∃ a C dx fs sp ar, x = .ref a ∧ H a = some (.ins C dx fs) ∧ (C, sp, ar) ∈ opts ∧ notSub K C H y ∧ sp (arr ar [x, y] []) H Q fun _ _ _ => False
  | _ => ∃ a C dx fs sp ar, x = .ref a ∧ H a = some (.ins C dx fs) ∧ (C, sp, ar) ∈ opts ∧ notSub K C H y ∧ sp (arr ar [x, y] []) H Q fun _ _ _ => False
/-- what may stand beside an own number -/
def besideO (K : PySem.W.Frag) (C : Addr) (op : Operator) (y : V) (H : Hp) : Prop := (∃ z, y = .str z ∧ (op = .Sub ∨ op = .Add)) ∨ (∃ b xs, y = .ref b ∧ SqT K H b xs ∧ op = .Add) ∨ ∃ b dx fs, y = .ref b ∧ H b = some (.ins C dx fs)
def rOwnK (K : PySem.W.Frag) (W : WX) (k : OwnK) (ta : TE) (tas tks : TA) : TE := fun σ H Q => match k with
  | .att fl pr co nm => ta σ H fun x H1 => rAttr fl pr co nm x H1 Q
  | .meth opts nm => ta σ H fun x H1 => rMeth opts nm x H1 fun sp ar => tas σ H1 fun vs H2 => tks σ H2 fun zs H3 => sp (arr ar (x :: vs) zs) H3 Q fun cls d H' => W cls d σ H'
  | .call opts => ta σ H fun x H1 => rCallO opts x H1 fun a C sp ar => tas σ H1 fun vs H2 => tks σ H2 fun zs H3 => (∃ dx fs, H3 a = some (.ins C dx fs)) ∧ sp (arr ar (x :: vs) zs) H3 Q fun cls d H' => W cls d σ H'
  | .make C sp ar => tas σ H fun vs H1 => tks σ H1 fun zs H2 => ∀ x dx, H2 x = none → H2 dx = none → dx ≠ x → sp (arr ar (.ref x :: vs) zs) (upd (upd H2 dx (.own x)) x (.ins C dx [])) (fun v H3 => v = .non ∧ Q (.ref x) H3) fun cls d H' => W cls d σ H'
  | .bin op opts => ta σ H fun x H1 => tas σ H1 fun ys H2 => match ys with
    | [y] => ∃ a C dx fs sp ar, x = .ref a ∧ H2 a = some (.ins C dx fs) ∧ (C, sp, ar) ∈ opts ∧ besideO K C op y H2 ∧ sp (arr ar [x, y] []) H2 Q fun cls d H' => W cls d σ H'
    | _ => False
  | .rbin opts opts0 => ta σ H fun x H1 => tas σ H1 fun ys H2 => match ys with
    | [y] => ∃ a C dx fs sp ar b xs sp0 ar0, y = .ref a ∧ H2 a = some (.ins C dx fs) ∧ (C, sp, ar) ∈ opts ∧ (C, sp0, ar0) ∈ opts0 ∧ x = .ref b ∧ SqT K H2 b xs ∧ sp (arr ar [y, x] []) H2 Q fun cls d H' => W cls d σ H'
    | _ => False
  | .sub opts => ta σ H fun x H1 => tas σ H1 fun ys H2 => match ys with
    | [y] => rOwn opts x [y] σ W H2 Q
    | _ => False
  | .len opts => ta σ H fun x H1 => rOwnF opts x [] H1 fun r H' => ∃ n : Nat, r = .int n ∧ n < 1000000 ∧ Q (.int n) H'
  | .repr opts => ta σ H fun x H1 => rOwnF opts x [] H1 fun r H' => ∃ z, r = .str z ∧ Q (.str z) H'
  | .ds1 => ∀ d, H d = none → ta σ (upd H d (.dK [])) fun x H1 => ∃ b kvs, x = .ref b ∧ Rd H1 b (.dK kvs) ∧ H1 d = some (.dK []) ∧ d ≠ b ∧ kvs.length ≤ 1000 ∧
      ∀ e, upd H1 d (.dK (mergeK [] kvs)) e = none → tas σ (upd (upd H1 d (.dK (mergeK [] kvs))) e (.dK [])) fun ys H4 => match ys with
        | [y, z] => ∃ kk kvs4, y = kV kk ∧ d ≠ e ∧ H4 e = some (.dK []) ∧ H4 d = some (.dK kvs4) ∧ kvs4.length ≤ 1000 ∧
          Q (.ref d) (upd (upd H4 e (.dK (putK [] kk z))) d (.dK (mergeK kvs4 (putK [] kk z))))
        | _ => False
  | .ds2 => ∀ d, H d = none → ta σ (upd H d (.dK [])) fun x H1 => ∃ b kvs, x = .ref b ∧ Rd H1 b (.dK kvs) ∧ H1 d = some (.dK []) ∧ d ≠ b ∧ kvs.length ≤ 1000 ∧
      tas σ (upd H1 d (.dK (mergeK [] kvs))) fun ys H2 => match ys with
      | [y] => ∃ b2 more kvs2, y = .ref b2 ∧ Rd H2 b2 (.dK more) ∧ H2 d = some (.dK kvs2) ∧ d ≠ b2 ∧ kvs2.length + more.length ≤ 1000 ∧ Q (.ref d) (upd H2 d (.dK (mergeK kvs2 more)))
      | _ => False
  | .srev => ta σ H fun x H1 => rSRev x H1 Q
  | .dict => ta σ H fun x H1 => (∃ (a : Addr) (ps : List Addr) (kvs : List (Key × V)), x = .ref a ∧ SqL K H1 a (ps.map V.ref) ∧ Paired (fun p kv => SqT K H1 p [kV kv.1, kv.2]) ps kvs ∧ ∀ p, H1 p = none → Q (.ref p) (upd H1 p (.dK (mergeK [] kvs)))) ∨
      ∃ (a : Addr) (kvs : List (Key × V)), x = .ref a ∧ Rd H1 a (.dK kvs) ∧ ∀ p, H1 p = none → Q (.ref p) (upd H1 p (.dK kvs))
  | .listD => ta σ H fun x H1 => ∃ (a : Addr) (kvs : List (Key × V)), x = .ref a ∧ Rd H1 a (.dK kvs) ∧ ∀ p, H1 p = none → Q (.ref p) (upd H1 p (.lst (kvs.map fun kv => kV kv.1)))
  | .listItems => LiI.tListItems ta σ H Q
mutual
/-- an expression's reading -/
def wE (K : PySem.W.Frag) (W : WX) : E → TE
  | .c v => fun _ H Q => Q v H
  | .v i => fun σ H Q => match σ[i]? with
    | some (some x) => Q x H
    | _ => False
  | .bin op a b => fun σ H Q => wE K W a σ H fun x H1 => wE K W b σ H1 fun y H2 => rBin K op x y H2 Q
  | .un op a => fun σ H Q => wE K W a σ H fun x H1 => rUn op x H1 Q
  | .not a => fun σ H Q => wE K W a σ H fun x H1 => match x with
    | .bl k => Q (.bl (!k)) H1
    | _ => False
  | .and a b => fun σ H Q => wE K W a σ H fun x H1 => match x with
    | .bl k => if k = true then wE K W b σ H1 Q else Q (.bl false) H1
    | _ => False
  | .or a b => fun σ H Q => wE K W a σ H fun x H1 => match x with
    | .bl k => if k = true then Q (.bl true) H1 else wE K W b σ H1 Q
    | _ => False
  | .ite t a b => fun σ H Q => wT K W t σ H fun k H1 => if k = true then wE K W a σ H1 Q else wE K W b σ H1 Q
  | .cmp op a b => fun σ H Q => wE K W a σ H fun x H1 => wE K W b σ H1 fun y H2 => rCmp K op x y H2 Q
  | .cmp2 op op' a b c => fun σ H Q => wE K W a σ H fun x H1 => wE K W b σ H1 fun y H2 => rCmp K op x y H2 fun z H3 => match z with
    | .bl k => if k = true then wE K W c σ H3 fun u H4 => rCmp K op' y u H4 Q else Q (.bl false) H3
    | _ => False
  | .lst as => fun σ H Q => wA K W as σ H fun xs H1 => xs.length ≤ sizeLine ∧ ∀ p, H1 p = none → Q (.ref p) (upd H1 p (.lst xs))
  | .tup as => fun σ H Q => wA K W as σ H fun xs H1 => xs.length ≤ sizeLine ∧ ∀ p, H1 p = none → Q (.ref p) (upd H1 p (.tup xs))
  | .dct ks vs => fun σ H Q => ∀ p, H p = none → tPairs ((wL K W ks).zip (wL K W vs)) σ (upd H p (.dK [])) fun ps H2 => H2 p = some (.dK []) ∧ ∃ kvs : List (Key × V), ps = kvs.map (fun kv => (kV kv.1, kv.2)) ∧ kvs.length ≤ 15 ∧ Q (.ref p) (upd H2 p (.dK (mergeK [] kvs)))
  | .sub a i => fun σ H Q => wE K W a σ H fun x H1 => wE K W i σ H1 fun y H2 => rSub K x y H2 Q
  | .slc a l h => fun σ H Q => wE K W a σ H fun x H1 => wO K W l σ H1 fun lo H2 => wO K W h σ H2 fun hi H3 => rSlc K x lo hi H3 Q
  | .call sp as ks ar => fun σ H Q => wA K W as σ H fun vs H1 => wA K W ks σ H1 fun zs H2 => sp (arr ar vs zs) H2 Q fun cls d H' => W cls d σ H'
  | .bi b as => fun σ H Q => wA K W as σ H fun xs H1 => rBi K b xs H1 Q
  | .bid b l => fun σ H Q => wE K W l σ H fun x H1 => ∃ D acc, x = .ref D ∧ H1 D = some (.lst acc) ∧ rBi K b [.ref D] H1 fun r H2 => H2 D = some (.lst acc) ∧ Q r (dropA H2 D)
  | .mt m o as => fun σ H Q => wE K W o σ H fun x H1 => mtTy K m x H1 ∧ wA K W as σ H1 fun xs H2 => rMt K m x xs H2 Q
  | .joind o l => fun σ H Q => wE K W o σ H fun x H1 => (∃ a, x = .str a) ∧ wE K W l σ H1 fun y H2 => ∃ D acc, y = .ref D ∧ H2 D = some (.lst acc) ∧ rMt K .join x [.ref D] H2 fun r H3 => H3 D = some (.lst acc) ∧ Q r (dropA H3 D)
  | .sortset a => fun σ H Q => wE K W a σ H fun x H1 => rSortSet K x H1 Q
  | .rev a => fun σ H Q => wE K W a σ H fun x H1 => ∃ p xs, x = .ref p ∧ SqL K H1 p xs ∧ ∀ q, H1 q = none → Q (.ref q) (upd H1 q (.lst xs.reverse))
  | .isA a ts => fun σ H Q => wE K W a σ H fun x H1 => rIsA K ts x H1 Q
  | .inT neg a es => fun σ H Q => wE K W a σ H fun x H1 => wA K W es σ H1 fun ys H2 => flatV x = true ∧ ys.all flatV = true ∧ ys.length ≤ sizeLine ∧ Q (.bl (if neg then !inV x ys else inV x ys)) H2
  | .lc e t it cs own => fun σ H Q => wI K W it σ H fun J H1 => ∀ D, H1 D = none → ∃ Wn : Nat → Nat → Hp → Prop, (∃ m, Wn 0 m (upd H1 D (.lst []))) ∧ ∀ i m H, Wn i m H →
      (J.stop i H ∧ Q (.ref D) H) ∨ (J.go i H ∧ ∃ Nx : Hp → Prop, (∀ H', Nx H' → ∃ m', m' < m ∧ Wn (i + 1) m' H') ∧ ∀ x H', J.yld i H x H' → wG K W0 t x (wipe σ own) H' fun σ2 H2 => wipe σ2 own = wipe σ own ∧ wC K W0 cs σ2 H2 fun b H3 =>
        if b = true then wE K W0 e σ2 H3 fun y H4 => ∃ acc, H4 D = some (.lst acc) ∧ acc.length < sizeLine ∧ Nx (upd H4 D (.lst (acc ++ [y]))) else Nx H3)
  | .dc ke ve t it cs own => fun σ H Q => wI K W it σ H fun J H1 => ∀ D, H1 D = none → ∃ Wn : Nat → Nat → Hp → Prop, (∃ m, Wn 0 m (upd H1 D (.dK []))) ∧ ∀ i m H, Wn i m H →
      (J.stop i H ∧ Q (.ref D) H) ∨ (J.go i H ∧ ∃ Nx : Hp → Prop, (∀ H', Nx H' → ∃ m', m' < m ∧ Wn (i + 1) m' H') ∧ ∀ x H', J.yld i H x H' → wG K W0 t x (wipe σ own) H' fun σ2 H2 => wipe σ2 own = wipe σ own ∧ wC K W0 cs σ2 H2 fun b H3 =>
        if b = true then wE K W0 ke σ2 H3 fun y H4 => wE K W0 ve σ2 H4 fun z H5 => ∃ kvs k, y = kV k ∧ H5 D = some (.dK kvs) ∧ kvs.length < sizeLine ∧ Nx (upd H5 D (.dK (putK kvs k z))) else Nx H3)
  | .own k a as ks => fun σ H Q => rOwnK K W k (wE K W a) (wA K W as) (wA K W ks) σ H Q
  | .cmpO op opts a b => fun σ H Q => wE K W a σ H fun x H1 => wE K W b σ H1 fun y H2 => rCmpO K op opts x y H2 Q
  | .lkE a => fun σ H Q => ∃ d u, H d = some u ∧ Mut (some u) ∧ ∀ od, wE K W a σ (upd H d (.frz od u)) fun v H' => H' d = some (.frz od u) ∧ Q v (upd H' d u)
  | _ => fun _ _ _ => False
/-- a test's reading -/
def wT (K : PySem.W.Frag) (W : WX) : E → TT
  | .not a => fun σ H Q => wT K W a σ H fun k H1 => Q (!k) H1
  | .and a b => fun σ H Q => wT K W a σ H fun k H1 => if k = true then wT K W b σ H1 Q else Q false H1
  | .or a b => fun σ H Q => wT K W a σ H fun k H1 => if k = true then Q true H1 else wT K W b σ H1 Q
  | .ite _ _ _ => fun _ _ _ => False
  | .cmp op a b => fun σ H Q => wE K W a σ H fun x H1 => wE K W b σ H1 fun y H2 => rCmp K op x y H2 fun z H3 => match z with
    | .bl k => Q k H3
    | _ => False
  | .cmp2 op op' a b c => fun σ H Q => wE K W a σ H fun x H1 => wE K W b σ H1 fun y H2 => rCmp K op x y H2 fun z H3 => match z with
    | .bl k => if k = true then wE K W c σ H3 fun u H4 => rCmp K op' y u H4 fun z2 H5 => (match z2 with | .bl k2 => Q k2 H5 | _ => False) else Q false H3
    | _ => False
  | .inT neg a es => fun σ H Q => wE K W a σ H fun x H1 => wA K W es σ H1 fun ys H2 => flatV x = true ∧ ys.all flatV = true ∧ ys.length ≤ sizeLine ∧ Q (if neg then !inV x ys else inV x ys) H2
  | .cmpO op opts a b => fun σ H Q => wE K W a σ H fun x H1 => wE K W b σ H1 fun y H2 => rCmpO K op opts x y H2 fun z H3 => match z with
    | .bl k => Q k H3
    | _ => False
  | .own k a as ks => fun σ H Q => rOwnK K W k (wE K W a) (wA K W as) (wA K W ks) σ H fun x H1 => rTru K x H1 Q
  | .v i => fun σ H Q => match σ[i]? with
    | some (some x) => rTru K x H Q
    | _ => False
  | .c v => fun _ H Q => rTru K v H Q
  | .call sp as ks ar => fun σ H Q => wA K W as σ H fun vs H1 => wA K W ks σ H1 fun zs H2 => sp (arr ar vs zs) H2 (fun x H3 => rTru K x H3 Q) fun cls d H' => W cls d σ H'
  | .bi b as => fun σ H Q => wA K W as σ H fun xs H1 => rBi K b xs H1 fun x H3 => rTru K x H3 Q
  | .bid b l => fun σ H Q => wE K W l σ H fun x H1 => ∃ D acc, x = .ref D ∧ H1 D = some (.lst acc) ∧ rBi K b [.ref D] H1 fun r H2 => H2 D = some (.lst acc) ∧ rTru K r (dropA H2 D) Q
  | .mt m o as => fun σ H Q => wE K W o σ H fun x H1 => mtTy K m x H1 ∧ wA K W as σ H1 fun xs H2 => rMt K m x xs H2 fun r H3 => rTru K r H3 Q
  | .isA a ts => fun σ H Q => wE K W a σ H fun x H1 => rIsA K ts x H1 fun r H2 => rTru K r H2 Q
  | .sub a i => fun σ H Q => wE K W a σ H fun x H1 => wE K W i σ H1 fun y H2 => rSub K x y H2 fun r H3 => rTru K r H3 Q
  | _ => fun _ _ _ => False
/-- arguments from the left -/
def wA (K : PySem.W.Frag) (W : WX) : E → TA
  | .nil => fun _ H Q => Q [] H
  | .cons a r => fun σ H Q => wE K W a σ H fun x H1 => wA K W r σ H1 fun xs H2 => Q (x :: xs) H2
  | _ => fun _ _ _ => False
def wL (K : PySem.W.Frag) (W : WX) : E → List TE
  | .cons a r => wE K W a :: wL K W r
  | _ => []
/-- an end of a slice -/
def wO (K : PySem.W.Frag) (W : WX) : E → TO
  | .nil => fun _ H Q => Q none H
  | .cons a _ => fun σ H Q => wE K W a σ H fun x H1 => match x with
    | .int i => Q (some i) H1
    | _ => False
  | _ => fun _ _ _ => False
/-- the tests of a comprehension -/
def wC (K : PySem.W.Frag) (W : WX) : E → TT
  | .nil => fun _ H Q => Q true H
  | .cons a _ => wT K W a
  | _ => fun _ _ _ => False
/-- what is walked -/
def wI (K : PySem.W.Frag) (W : WX) : E → TI
  | .rng1 as => iRng1 (wA K W as)
  | .rng2 as => iRng2 (wA K W as)
  | .rng3 as => iRng3 (wA K W as)
  | .it a => fun σ H R => wE K W a σ H fun x H1 => iVal K x H1 R
  | .enum a => fun σ H R => wE K W a σ H fun x H1 => iEnumV K x H1 R
  | .items a => fun σ H R => wE K W a σ H fun x H1 => ∃ d o kvs, x = .ref d ∧ H1 d = some (.frz o (.dK kvs)) ∧ R (Iti d o kvs) H1
  | .keys a => fun σ H R => wE K W a σ H fun x H1 => ∃ d o kvs, x = .ref d ∧ H1 d = some (.frz o (.dK kvs)) ∧ R (Itk d o kvs) H1
  | .vals a => fun σ H R => wE K W a σ H fun x H1 => ∃ d o kvs, x = .ref d ∧ H1 d = some (.frz o (.dK kvs)) ∧ R (Itd d o kvs) H1
  | .kd a => fun σ H R => wE K W a σ H fun x H1 => ∃ d o, x = .ref d ∧ ((∃ kvs, H1 d = some (.frz o (.dK kvs)) ∧ R (Itk d o kvs) H1) ∨ ∃ kvs, H1 d = some (.frz o (.dT kvs)) ∧ R (Itkt d o kvs) H1)
  | .v i => fun σ H R => match σ[i]? with
    | some (some x) => iVal K x H R
    | _ => False
  | .c v => fun _ H R => iVal K v H R
  | .lst as => fun σ H R => wA K W as σ H fun xs H1 => xs.length ≤ sizeLine ∧ ∀ p, H1 p = none → iVal K (.ref p) (upd H1 p (.lst xs)) R
  | .tup as => fun σ H R => wA K W as σ H fun xs H1 => xs.length ≤ sizeLine ∧ ∀ p, H1 p = none → iVal K (.ref p) (upd H1 p (.tup xs)) R
  | .own k a as ks => fun σ H R => rOwnK K W k (wE K W a) (wA K W as) (wA K W ks) σ H fun x H1 => iVal K x H1 R
  | .call sp as ks ar => fun σ H R => wA K W as σ H fun vs H1 => wA K W ks σ H1 fun zs H2 => sp (arr ar vs zs) H2 (fun x H3 => iVal K x H3 R) fun cls d H' => W cls d σ H'
  | _ => fun _ _ _ => False
/-- a target -/
def wG (K : PySem.W.Frag) (W : WX) : E → TG
  | .v i => fun x σ H Q => Q (σ.set i (some x)) H
  | .sub o i => fun x σ H Q => wE K W o σ H fun p H1 => wE K W i σ H1 fun y H2 => rSet p y x H2 fun H3 => Q σ H3
  | .tup ts => fun x σ H Q => ∃ a xs, x = .ref a ∧ SqT K H a xs ∧ xs.length = lenE ts ∧ wGs K W ts xs σ H Q
  | _ => fun _ _ _ _ => False
def wGs (K : PySem.W.Frag) (W : WX) : E → TGs
  | .nil => fun vs σ H Q => vs = [] ∧ Q σ H
  | .cons t r => fun vs σ H Q => ∃ x xs, vs = x :: xs ∧ wG K W t x σ H fun σ1 H1 => wGs K W r xs σ1 H1 Q
  | _ => fun _ _ _ _ => False
end
/-- statements -/
inductive S where
  | nil
  | cons (a r : S)
  | ex (e : E)
  | ret (e : E)
  | retN
  | set (t e : E)
  | par (is : List Nat) (es : E)
  | ite (c : E) (a b : S)
  | for_ (t it : E) (b : S)
  | while_ (c : E) (b : S)
  | brk
  | cont
  | pass
  | lk (a : S)
  | fld (f : Str) (o e : E)
  | bad
def parQ (is : List Nat) (vs : List V) (σ : L2.St) (H : Hp) (Q : L2.St → Hp → Prop) : Prop := match is with
  | [i, j] => ∃ v w, vs = [v, w] ∧ Q ((σ.set i (some v)).set j (some w)) H
  | [i, j, l] => ∃ u v w, vs = [u, v, w] ∧ Q (((σ.set i (some u)).set j (some v)).set l (some w)) H
  | _ => False
def wS (K : PySem.W.Frag) (W : WX) : S → TS
  | .nil => fun D σ H => D.nx σ H
  | .cons a r => fun D σ H => wS K W a { D with nx := wS K W r D } σ H
  | .ex e => fun D σ H => wE K W e σ H fun _ H1 => D.nx σ H1
  | .ret e => fun D σ H => wE K W e σ H D.rt
  | .retN => fun D _ H => D.rt .non H
  | .set t e => fun D σ H => wE K W e σ H fun x H1 => wG K W t x σ H1 D.nx
  | .par is es => fun D σ H => wA K W es σ H fun vs H1 => parQ is vs σ H1 D.nx
  | .ite c a b => fun D σ H => wT K W c σ H fun k H1 => if k = true then wS K W a D σ H1 else wS K W b D σ H1
  | .for_ t it b => fun D σ H => wI K W it σ H fun J H1 => ∃ Wn : Nat → Nat → L2.St → Hp → Prop, (∃ m, Wn 0 m σ H1) ∧ ∀ i m σ H, Wn i m σ H →
      (J.stop i H ∧ D.nx σ H) ∨ (J.go i H ∧ ∃ N : L2.St → Hp → Prop, (∀ σ' H', N σ' H' → ∃ m', m' < m ∧ Wn (i + 1) m' σ' H') ∧ ∀ x H', J.yld i H x H' → wG K W t x σ H' fun σ2 H2 => wS K W b { D with nx := N, ct := N, bk := D.nx } σ2 H2)
  | .while_ c b => tWhile (wT K W c) (wS K W b)
  | .brk => fun D σ H => D.bk σ H
  | .cont => fun D σ H => D.ct σ H
  | .pass => fun D σ H => D.nx σ H
  | .lk a => tLock (wS K W a)
  | .fld f o e => sFld K (wE K W o) (wE K W e) f
  | .bad => fun _ _ _ => False
end CW

namespace CW
open PySem PySem.Spec PyProof.Rows L2
/-! ## 6. From the text to the small language -/
/-- a method: its parameters, how calls bind, its promise -/
structure MI where
  ps : List Str
  sh : List (Nat × List Str × List Ar)
  sp : Sp
/-- a class of the module -/
structure CI where
  C : Addr
  ini : Option MI
  ms : List (Str × MI)
  prs : List (Str × Sp)
  cs : List (Str × V)
  fl : List Str
/-- what a name of the module is -/
inductive Gv where
  | fn (ps : List Str) (sh : List (Nat × List Str × List Ar)) (sp : Sp)
  | con (v : V)
  | bi (b : Bi)
  | ty (t : Ty) (b : Option Bi)
  | isi
  | rng
  | enum
  | setT
  | cls (ci : CI)
structure Cm where
  N : List Str
  sc : Scope
  F : Str → Bool
  tb : List (Str × Gv)
  lk : List (Nat × Nat)
  cl : List CI
  ow : List (Nat × Nat × Nat)
def Cm.vis (m : Cm) (x : Str) : Bool := match m.sc.names.lookup x with
  | some .local => true
  | some .cell => true
  | some .free => true
  | _ => false
def Cm.glob (m : Cm) (x : Str) : Bool := match m.sc.names.lookup x with
  | some .globalImplicit => true
  | _ => false
def Cm.stor (m : Cm) (x : Str) : Bool := match m.sc.names.lookup x with
  | some .local => true
  | some .cell => m.F x
  | _ => false
def ixOf (x : Str) : List Str → Option Nat
  | [] => none
  | y :: r => if x = y then some 0 else (ixOf x r).map (· + 1)
def odd (x : Str) : Bool := decide (x = "__debug__") || decide (x = "__classdict__") || decide (x = "__name__")
def Cm.get (m : Cm) (x : Str) : Option Gv := if m.glob x && !odd x then m.tb.lookup x else none
def Cm.name (m : Cm) (x : Str) : Option E :=
  if odd x then none else if m.vis x then (ixOf x m.N).map .v else match m.get x with
    | some (.con v) => some (.c v)
    | _ => none
def mapE (f : Expr → Option E) : List Expr → Option E
  | [] => some .nil
  | e :: es => if noStar e then match f e, mapE f es with
    | some a, some r => some (.cons a r)
    | _, _ => none
    else none
def mapO (f : Expr → Option E) : List (Option Expr) → Option E
  | [] => some .nil
  | some e :: es => match f e, mapO f es with
    | some a, some r => some (.cons a r)
    | _, _ => none
  | none :: _ => none
def mapK (f : Expr → Option E) : List Keyword → Option E
  | [] => some .nil
  | ⟨some _, e, _⟩ :: es => match f e, mapK f es with
    | some a, some r => some (.cons a r)
    | _, _ => none
  | ⟨none, _, _⟩ :: _ => none
def optE (f : Expr → Option E) : Option Expr → Option E
  | none => some .nil
  | some e => match f e with
    | some a => some (.cons a .nil)
    | _ => none
def kwNames (ks : List Keyword) : List Str := ks.filterMap (·.arg)
def shapeOf (sh : List (Nat × List Str × List Ar)) (n : Nat) (ks : List Str) : Option (List Ar) := match sh with
  | [] => none
  | (k, names, ar) :: r => if k = n ∧ names = ks then some ar else shapeOf r n ks
def tyOf (m : Cm) : Expr → Option Ty
  | .Name x _ => match m.get x with
    | some (.ty t _) => some t
    | _ => none
  | _ => none
def tysOf (m : Cm) : List Expr → Option (List Ty)
  | [] => some []
  | e :: es => match tyOf m e, tysOf m es with
    | some t, some r => some (t :: r)
    | _, _ => none
def notSuper (o : Expr) : Bool := match o with
  | .Call (.Name _ _) [] [] _ => false
  | _ => true
def isTup : Expr → Bool
  | .Tuple .. => true
  | _ => false
def notSet : Expr → Bool
  | .Set .. => false
  | _ => true
def ownOf (N : List Str) (sc : Scope) : List (Str × Nat) := sc.names.filterMap fun (x, k) => match k with
  | .local => (ixOf x N).map fun i => (x, i)
  | .cell => (ixOf x N).map fun i => (x, i)
  | _ => none
def mtOf (nm : Str) : Option Mt := if nm = "append" then some .append else if nm = "join" then some .join else if nm = "startswith" then some .startswith else if nm = "extend" then some .extend else if nm = "pop" then some .pop else none
def mt0Of (nm : Str) : Option Mt := if nm = "pop" then some .pop else if nm = "clear" then some .clear else none
def Cm.loc (m : Cm) (x : Str) : Bool := match m.sc.names.lookup x with
  | some .local => true
  | _ => false
def bkOf (sc : Scope) : ScopeKind := if sc.kind.isAnnotationScope then .function else sc.kind
/-- in which way names of a tuple are stored -/
def swPure (sc : Scope) (ts vs : List Expr) : Option (Option (List Str)) :=
  if (!(ts.length == 2 || ts.length == 3) || vs.length != ts.length || bkOf sc != .function) = true then some none
  else if (vs.any fun | .Starred .. => true | _ => false) = true then some none
  else
    let names := ts.filterMap fun
      | .Name id pos => if sc.names.lookup id == some .local && pos.line == (ts.head?.map (·.pos.line)).getD 0 then some id else none
      | _ => none
    if (names.length != ts.length || names.eraseDups.length != names.length) = true then some none
    else if vs.all (foldedForSure 8) = true then some none
    else if vs.all (constantsAlone 8) = true then none
    else some (some names)
/-- a comprehension's block -/
def Cm.blk (m : Cm) (scope : Scope) : Cm := ⟨m.N, relS scope m.sc, fun x => scope.names.lookup x == some .cell, m.tb, m.lk, m.cl, m.ow⟩
/-- what is walked is a dict -/
def Cm.hint (m : Cm) (e : Expr) : Bool := m.lk.contains (e.pos.line, e.pos.col)
def Cm.dw (m : Cm) (e : Expr) : Bool := m.hint e || match e with
  | .Call (.Attribute _ nm _) [] [] _ => decide (nm = "items") || decide (nm = "keys") || decide (nm = "values")
  | _ => false
def Cm.wrap (m : Cm) (e : Expr) (a : E) : E := if m.dw e then .lkE a else a
def Cm.wrapS (m : Cm) (e : Expr) (a : S) : S := if m.dw e then .lk a else a

/-! ### own classes, further built-ins -/
def flOf (cl : List CI) (nm : Str) : List Addr := cl.filterMap fun ci => if ci.fl.contains nm then some ci.C else none
def prOf (cl : List CI) (nm : Str) : List (Addr × Sp) := cl.filterMap fun ci => (ci.prs.lookup nm).map fun sp => (ci.C, sp)
def coOf (cl : List CI) (nm : Str) : List (Addr × V) := cl.filterMap fun ci => (ci.cs.lookup nm).map fun v => (ci.C, v)
def msOf (cl : List CI) (nm : Str) (n : Nat) (ks : List Str) : List (Addr × Sp × List Ar) := cl.filterMap fun ci => match ci.ms.lookup nm with
  | some mi => (shapeOf mi.sh n ks).map fun ar => (ci.C, mi.sp, ar)
  | none => none
def notAttr : Expr → Bool
  | .Attribute .. => false
  | _ => true
def cmpNm : CmpOp → Option Str
  | .Eq => some "__eq__"
  | .LtE => some "__le__"
  | .GtE => some "__ge__"
  | .Lt => some "__lt__"
  | .Gt => some "__gt__"
  | _ => none
def Cm.own (m : Cm) (p : Pos) : Bool := m.ow.contains (p.line, p.col, p.endCol)
def isTy (m : Cm) (x : Str) (n : String) : Bool := match m.get x with
  | some (.ty t _) => t.nm == n
  | _ => false
def isBi (m : Cm) (x : Str) (b : Bi) : Bool := match m.get x with
  | some (.bi b') => b' == b
  | some (.ty t (some b')) => b' == b
  | _ => false
/-- an expression about own classes -/
def compO (f : Expr → Option E) (m : Cm) : Expr → Option E
  | .Attribute o nm _ => if notSuper o then (f o).map fun a => .own (.att (flOf m.cl nm) (prOf m.cl nm) (coOf m.cl nm) nm) a .nil .nil else none
  | .Call (.Attribute o nm apos) as ks pos => if notSuper o && apos.endLine == pos.line && decide (as.length + ks.length < 28) && !(msOf m.cl nm (as.length + 1) (kwNames ks)).isEmpty then match f o, mapE f as, mapK f ks with
    | some o', some as', some ks' => some (.own (.meth (msOf m.cl nm (as.length + 1) (kwNames ks)) nm) o' as' ks')
    | _, _, _ => none
    else none
  | .Call (.Name x p) as ks pos => match m.get x with
    | some (.cls ci) => match ci.ini with
      | some mi => match mapE f as, mapK f ks, shapeOf mi.sh (as.length + 1) (kwNames ks) with
        | some as', some ks', some ar => some (.own (.make ci.C mi.sp ar) .nil as' ks')
        | _, _, _ => none
      | none => none
    | none => if m.vis x && !odd x then match f (.Name x p), mapE f as, mapK f ks with
      | some o', some as', some ks' => some (.own (.call (msOf m.cl "__call__" (as.length + 1) (kwNames ks))) o' as' ks')
      | _, _, _ => none
      else none
    | some (.bi b) => match as, ks with
      | [a], [] => if m.own pos && noStar a then (if b == .len then (f a).map fun a' => .own (.len (msOf m.cl "__len__" 1 [])) a' .nil .nil else if b == .repr then (f a).map fun a' => .own (.repr (msOf m.cl "__repr__" 1 [])) a' .nil .nil else none) else none
      | [a], [⟨some kw, .Constant (.bool true) _ _, _⟩] => if decide (kw = "reverse") && b == .sorted && noStar a then (f a).map fun a' => .own .srev a' .nil .nil else none
      | _, _ => none
    | some (.ty t _) => match as, ks with
      | [.Call (.Attribute e nm apos) [] [] cpos], [] => if decide (nm = "items") && decide (x = "list") && t.nm == "list" && notSuper e && apos.endLine == cpos.line then (f e).map fun a' => .own .listItems a' .nil .nil else if t.nm == "dict" && noStar (.Call (.Attribute e nm apos) [] [] cpos) then (f (.Call (.Attribute e nm apos) [] [] cpos)).map fun a' => .own .dict a' .nil .nil else none
      | [a], [] => if t.nm == "dict" && noStar a then (f a).map fun a' => .own .dict a' .nil .nil else if m.own pos && t.nm == "list" && noStar a then (f a).map fun a' => .own .listD a' .nil .nil else none
      | _, _ => none
    | _ => none
  | .Call (.BinOp a op b p) as ks pos => match f (.BinOp a op b p), mapE f as, mapK f ks with
    | some o', some as', some ks' => some (.own (.call (msOf m.cl "__call__" (as.length + 1) (kwNames ks))) o' as' ks')
    | _, _, _ => none
  | .BinOp a op b pos => if m.own pos then match f a, f b with
    | some a', some b' => some (if isTup a && op == .Add then .own (.rbin (msOf m.cl "__radd__" 2 []) (msOf m.cl "__add__" 2 [])) a' (.cons b' .nil) .nil else .own (.bin op (msOf m.cl (PySem.dunder op.info.2) 2 [])) a' (.cons b' .nil) .nil)
    | _, _ => none
    else none
  | .Subscript a i pos => if m.own pos && notSlice i then match f a, f i with
    | some a', some i' => some (.own (.sub (msOf m.cl "__getitem__" 2 [])) a' (.cons i' .nil) .nil)
    | _, _ => none
    else none
  | .Compare a [op] [b] pos => if m.own pos && !behindInMarks op b then match f a, f b with
    | some a', some b' => some (.cmpO op (match op with
      | .In => msOf m.cl "__contains__" 2 []
      | .NotIn => msOf m.cl "__contains__" 2 []
      | op => match cmpNm op with
        | some nm => msOf m.cl nm 2 []
        | none => []) a' b')
    | _, _ => none
    else none
  | .Dict [none, some k] [a, v] _ => match f a, f k, f v with
    | some a', some k', some v' => some (.own .ds1 a' (.cons k' (.cons v' .nil)) .nil)
    | _, _, _ => none
  | .Dict [none, none] [a, b] _ => match f a, f b with
    | some a', some b' => some (.own .ds2 a' (.cons b' .nil) .nil)
    | _, _ => none
  | _ => none
mutual
def compE : Nat → Cm → Expr → Option E
  | 0, _, _ => none
  | n + 1, m, e => match compO (compE n m) m e with
    | some a => some a
    | none => match e with
    | .Constant (.int i) _ _ => some (.c (.int i))
    | .Constant (.str s) _ _ => some (.c (.str s))
    | .Constant (.bool b) _ _ => some (.c (.bl b))
    | .Constant .none _ _ => some (.c .non)
    | .Name x _ => m.name x
    | .BinOp a op b _ => match compE n m a, compE n m b with
      | some a', some b' => some (.bin op a' b')
      | _, _ => none
    | .UnaryOp .Not a _ => (compE n m a).map .not
    | .UnaryOp op a _ => (compE n m a).map (.un op)
    | .BoolOp .And [a] _ => compE n m a
    | .BoolOp .Or [a] _ => compE n m a
    | .BoolOp .And (a :: b :: r) p => match compE n m a, compE n m (.BoolOp .And (b :: r) p) with
      | some a', some b' => some (.and a' b')
      | _, _ => none
    | .BoolOp .Or (a :: b :: r) p => match compE n m a, compE n m (.BoolOp .Or (b :: r) p) with
      | some a', some b' => some (.or a' b')
      | _, _ => none
    | .IfExp t a b _ => match compE n m t, compE n m a, compE n m b with
      | some t', some a', some b' => some (.ite t' a' b')
      | _, _, _ => none
    | .Compare a [.In] [.Tuple es _ _] _ => match compE n m a, mapE (compE n m) es with
      | some a', some es' => some (.inT false a' es')
      | _, _ => none
    | .Compare a [.NotIn] [.Tuple es _ _] _ => match compE n m a, mapE (compE n m) es with
      | some a', some es' => some (.inT true a' es')
      | _, _ => none
    | .Compare a [.In] [.List es _] _ => match compE n m a, mapE (compE n m) es with
      | some a', some es' => some (.inT false a' es')
      | _, _ => none
    | .Compare a [.NotIn] [.List es _] _ => match compE n m a, mapE (compE n m) es with
      | some a', some es' => some (.inT true a' es')
      | _, _ => none
    | .Compare a [op] [b] _ => if behindInMarks op b then none else match compE n m a, compE n m b with
      | some a', some b' => some (.cmp op a' b')
      | _, _ => none
    | .Compare a [op, op'] [b, c] _ => if behindInMarks op' c then none else match compE n m a, compE n m b, compE n m c with
      | some a', some b', some c' => some (.cmp2 op op' a' b' c')
      | _, _, _ => none
    | .List es _ => (mapE (compE n m) es).map .lst
    | .Tuple es _ _ => (mapE (compE n m) es).map .tup
    | .Dict ks vs _ => if ks.length = vs.length ∧ ks.length ≤ 15 then match mapO (compE n m) ks, mapE (compE n m) vs with
      | some ks', some vs' => some (.dct ks' vs')
      | _, _ => none
      else none
    | .Subscript a (.Slice lo hi none _) _ => match compE n m a, optE (compE n m) lo, optE (compE n m) hi with
      | some a', some l', some h' => some (.slc a' l' h')
      | _, _, _ => none
    | .Subscript a (.Slice none none (some (.UnaryOp .USub (.Constant (.int 1) _ _) _)) _) _ => (compE n m a).map .rev
    | .Subscript a i _ => if notSlice i then match compE n m a, compE n m i with
      | some a', some i' => some (.sub a' i')
      | _, _ => none
      else none
    | .Call (.Name x _) as ks _ => match m.get x with
      | some (.fn _ sh sp) => match mapE (compE n m) as, mapK (compE n m) ks, shapeOf sh as.length (kwNames ks) with
        | some as', some ks', some ar => some (.call sp as' ks' ar)
        | _, _, _ => none
      | some (.bi b) => compB n m b as ks
      | some (.ty _ (some b)) => compB n m b as ks
      | some .isi => match ks, as with
        | [], [a, .Tuple es _ _] => if es.length < 100 then match compE n m a, tysOf m es with
          | some a', some ts => some (.isA a' ts)
          | _, _ => none
          else none
        | [], [a, b] => match compE n m a, tyOf m b with
          | some a', some t => some (.isA a' [t])
          | _, _ => none
        | _, _ => none
      | _ => none
    | .Call (.Attribute o nm apos) [.ListComp a b c d] [] cpos => if notSuper o && apos.endLine == cpos.line then (if nm = "join" then match compE n m o, compE n m (.ListComp a b c d) with
      | some o', some l' => some (.joind o' l')
      | _, _ => none
      else match mtOf nm, compE n m o, mapE (compE n m) [.ListComp a b c d] with
      | some t, some o', some as' => some (.mt t o' as')
      | _, _, _ => none)
      else none
    | .Call (.Attribute o nm apos) [] [] cpos => if notSuper o && apos.endLine == cpos.line then match mt0Of nm, compE n m o with
      | some t, some o' => some (.mt t o' .nil)
      | _, _ => none
      else none
    | .Call (.Attribute o nm apos) (a :: as) [] cpos => if notSuper o && apos.endLine == cpos.line && decide ((a :: as).length < 29) then match mtOf nm, compE n m o, mapE (compE n m) (a :: as) with
      | some t, some o', some as' => some (.mt t o' as')
      | _, _, _ => none
      else none
    | .ListComp elt [⟨tg, iter, ifs, 0⟩] scope _ => if notSet iter && blkC m.N m.sc scope (ownOf m.N scope) && decide (ifs.length ≤ 1) then match compI n m tg iter, compG n (m.blk scope) tg, mapE (compE n (m.blk scope)) ifs, compE n (m.blk scope) elt with
      | some it', some t', some cs', some e' => some (m.wrap iter (.lc e' t' it' cs' ((ownOf m.N scope).map (·.2))))
      | _, _, _, _ => none
      else none
    | .DictComp ke ve [⟨tg, iter, ifs, 0⟩] scope _ => if notSet iter && blkC m.N m.sc scope (ownOf m.N scope) && decide (ifs.length ≤ 1) then match compI n m tg iter, compG n (m.blk scope) tg, mapE (compE n (m.blk scope)) ifs, compE n (m.blk scope) ke, compE n (m.blk scope) ve with
      | some it', some t', some cs', some k', some v' => some (m.wrap iter (.dc k' v' t' it' cs' ((ownOf m.N scope).map (·.2))))
      | _, _, _, _, _ => none
      else none
    | _ => none
/-- a built-in called -/
def compB : Nat → Cm → Bi → List Expr → List Keyword → Option E
  | 0, _, _, _, _ => none
  | n + 1, m, b, as, ks => match as, ks with
    | [.ListComp a c d e], [] => (compE n m (.ListComp a c d e)).map (.bid b)
    | [.Call (.Name y p) [a] [] q], [] => match b, m.get y with
      | .sorted, some .setT => if noStar a then (compE n m a).map .sortset else none
      | _, _ => (mapE (compE n m) [.Call (.Name y p) [a] [] q]).map (.bi b)
    | a :: as, [] => (mapE (compE n m) (a :: as)).map (.bi b)
    | _, _ => none
def compG : Nat → Cm → Expr → Option E
  | 0, _, _ => none
  | n + 1, m, e => match e with
    | .Name x _ => if m.stor x && !odd x then (ixOf x m.N).map .v else none
    | .Subscript o i _ => if notSlice i then match compE n m o, compE n m i with
      | some o', some i' => some (.sub o' i')
      | _, _ => none
      else none
    | .Tuple es _ _ => (mapE (compG n m) es).map .tup
    | _ => none
/-- what is walked, with the target -/
def compI : Nat → Cm → Expr → Expr → Option E
  | 0, _, _, _ => none
  | n + 1, m, tg, e => if m.hint e then (compE n m e).map .kd else match e with
    | .Call (.Attribute o nm apos) [] [] cpos => if notSuper o && apos.endLine == cpos.line then
        (if nm = "items" then match tg with
          | .Tuple _ _ _ => (compE n m o).map .items
          | .Name _ _ => (compE n m o).map .items
          | _ => none
        else if nm = "keys" then (compE n m o).map .keys
        else if nm = "values" then (compE n m o).map .vals
        else if (msOf m.cl nm 1 []).isEmpty then none else (compE n m e).map .it) else none
    | .Call (.Name x _) as [] _ => match m.get x with
      | some .rng => match as with
        | [_] => (mapE (compE n m) as).map .rng1
        | [_, _] => (mapE (compE n m) as).map .rng2
        | [_, _, _] => (mapE (compE n m) as).map .rng3
        | _ => none
      | some .enum => match as, tg with
        | [a], .Tuple _ _ _ => if noStar a then (compE n m a).map .enum else none
        | _, _ => none
      | some (.fn _ _ _) => compE n m e
      | some (.bi _) => (compE n m e).map .it
      | some (.ty _ _) => (compE n m e).map .it
      | _ => none
    | .Name _ _ => compE n m e
    | .Attribute _ _ _ => (compE n m e).map .it
    | .Constant (.str z) _ _ => some (.c (.str z))
    | .List es _ => (mapE (compE n m) es).map .lst
    | .Tuple es _ _ => (mapE (compE n m) es).map .tup
    | .Subscript a i p => (compE n m (.Subscript a i p)).map .it
    | .BinOp a i b p => (compE n m (.BinOp a i b p)).map .it
    | .ListComp a i b p => (compE n m (.ListComp a i b p)).map .it
    | _ => none
end
mutual
def compS : Nat → Cm → Stmt → Option S
  | 0, _, _ => none
  | n + 1, m, s => match s with
    | .Expr (.Constant (.str _) _ _) _ => some .pass
    | .Expr e _ => if isComp e then none else (compE n m e).map .ex
    | .Return (some e) _ => (compE n m e).map .ret
    | .Return none _ => some .retN
    | .Pass _ => some .pass
    | .Break _ => some .brk
    | .Continue _ => some .cont
    | .Assign [.Name x _] e _ => if m.stor x && !odd x then match ixOf x m.N, compE n m e with
      | some i, some e' => some (.set (.v i) e')
      | _, _ => none
      else none
    | .Assign [.Attribute o f _] e _ => match compE n m o, compE n m e with
      | some o', some e' => some (.fld f o' e')
      | _, _ => none
    | .Assign [.Subscript o i p] e _ => if isComp e then none else match compG n m (.Subscript o i p), compE n m e with
      | some t', some e' => some (.set t' e')
      | _, _ => none
    | .Assign [.Tuple ts k p] (.Tuple vs k2 p2) _ => match swPure m.sc ts vs with
      | some none => match compG n m (.Tuple ts k p), compE n m (.Tuple vs k2 p2) with
        | some t', some e' => some (.set t' e')
        | _, _ => none
      | some (some ns) => match ts, vs, mapE (compE n m) vs with
        | [.Name x _, .Name y _], [_, _], some e' => if m.loc x && m.loc y && decide (ns = [x, y]) then match ixOf x m.N, ixOf y m.N with
          | some i, some j => if i ≠ j then some (.par [i, j] e') else none
          | _, _ => none
          else none
        | [.Name x _, .Name y _, .Name z _], [_, _, _], some e' => if m.loc x && m.loc y && m.loc z && decide (ns = [x, y, z]) then match ixOf x m.N, ixOf y m.N, ixOf z m.N with
          | some i, some j, some l => if i ≠ j ∧ i ≠ l ∧ j ≠ l then some (.par [i, j, l] e') else none
          | _, _, _ => none
          else none
        | _, _, _ => none
      | none => none
    | .Assign [.Tuple ts k p] e _ => if isComp e || isTup e then none else match compG n m (.Tuple ts k p), compE n m e with
      | some t', some e' => some (.set t' e')
      | _, _ => none
    | .If c a b _ => match compE n m c, compSs n m a, compSs n m b with
      | some c', some a', some b' => some (.ite c' a' b')
      | _, _, _ => none
    | .For tg it b [] _ => if notSet it then match compG n m tg, compI n m tg it, compSs n m b with
      | some t', some i', some b' => some (m.wrapS it (.for_ t' i' b'))
      | _, _, _ => none
      else none
    | .While c b [] _ => match compE n m c, compSs n m b with
      | some c', some b' => some (.while_ c' b')
      | _, _ => none
    | _ => none
def compSs : Nat → Cm → List Stmt → Option S
  | 0, _, _ => none
  | n + 1, m, ss => match ss with
    | [] => some .nil
    | s :: r => match compS n m s, compSs n m r with
      | some a, some b => some (.cons a b)
      | none, some b => some (.cons .bad b)
      | _, _ => none
end
end CW

namespace CW
open PySem PySem.Spec PyProof.Rows L2
/-! ## 7. Promises of defs where texts of data may be asked (nothing is being shown around) -/
structure FnG (P : Program) (w : World) (K : PySem.W.Frag) (mg : Str → Option Value) (base : Heap) (k : Nat) (f : Addr) (fd : FuncData) (ps : List Str) (sp : Sp) : Prop where
  ar : ∀ vs H Q R, sp vs H Q R → vs.length = ps.length
  go : ∀ (A : Around) (outer : List Env) (s : Shared) (H : Hp) (args : Args) (us : List Value) (vs : List V) (Q : VK) (R : XK), Room k A → A.guards = some [] →
    Env0 P w K mg base A outer s H → BindsTo s fd args (ps.zip us) → Vals vs us → sp vs H Q R → codeAny (model P w) A (.call (.ref f) args) (CR (L2.CX P w) outer P w H s Q R) s
theorem FnG.up {P : Program} {w : World} {K : PySem.W.Frag} {mg : Str → Option Value} {base : Heap} {j k : Nat} {f : Addr} {fd : FuncData} {ps : List Str} {sp : Sp} (F : FnG P w K mg base j f fd ps sp) (h : j ≤ k) : FnG P w K mg base k f fd ps sp :=
  ⟨F.ar, fun A outer s H args us vs Q R hr => F.go A outer s H args us vs Q R (hr.mono h)⟩
/-- how a written call of n arguments and the keywords ks binds -/
def KB (K : PySem.W.Frag) (fd : FuncData) (ps : List Str) (n : Nat) (ks : List Str) (ar : List Ar) : Prop := ∃ g : List Value → List Value → List Value,
  (∀ (s : Shared) (us ws : List Value), K.In s.heap → us.length = n → ws.length = ks.length → BindsTo s fd ⟨us, ks.zip ws⟩ (ps.zip (g us ws))) ∧
  ∀ {vs : List V} {us : List Value} {zs : List V} {ws : List Value}, Vals vs us → Vals zs ws → us.length = n → ws.length = ks.length → Vals (arr ar vs zs) (g us ws)
/-- a def's promise, with room for one more -/
def MiOk (X : Cx) (f : Addr) (mi : MI) : Prop := ∃ fd k, FnG X.prog X.w X.K X.mg X.base k f fd mi.ps mi.sp ∧ Room (k + 1) X.A ∧ ∀ t ∈ mi.sh, KB X.K fd mi.ps t.1 t.2.1 t.2.2
structure CiOk (X : Cx) (ci : CI) : Prop where
  c : Cls X.K ci.C
  sq : PySem.W.noSeq X.K ci.C = true
  sf : PySem.W.selfFirst X.K ci.C = true
  ini : ∀ mi, ci.ini = some mi → ∃ f, Mk X.K ci.C f ∧ MiOk X f mi
  ms : ∀ p ∈ ci.ms, ∃ f, Meth X.K ci.C p.1 f ∧ PySem.W.fnIn X.K f = true ∧ MiOk X f p.2
  prs : ∀ p ∈ ci.prs, ∃ pr g, PropOf X.K ci.C p.1 pr g ∧ MiOk X g ⟨["self"], [(1, [], [.p 0])], p.2⟩
  cs : ∀ p ∈ ci.cs, ∃ u, Con X.K ci.C p.1 p.2 u
  fl : ∀ f ∈ ci.fl, NoAttr X.K ci.C f
/-- what must be so of a name of the module -/
def GvOk (X : Cx) (x : Str) : Gv → Prop
  | .fn ps sh sp => ∃ f fd k, X.mg x = some (.ref f) ∧ PySem.W.keepIn X.K (.ref f) = true ∧ FnG X.prog X.w X.K X.mg X.base k f fd ps sp ∧ Room k X.A ∧ ∀ t ∈ sh, KB X.K fd ps t.1 t.2.1 t.2.2
  | .con v => ∃ u, X.mg x = some u ∧ RelV v u
  | .bi b => X.mg x = none ∧ bootBuiltins x = some b.val
  | .ty t ob => X.mg x = none ∧ bootBuiltins x = some (.type t.nm) ∧ ∀ b, ob = some b → b.val = .type t.nm
  | .isi => X.mg x = none ∧ bootBuiltins x = some (.builtin "isinstance")
  | .rng => x = "range" ∧ X.mg "range" = none
  | .enum => x = "enumerate" ∧ X.mg "enumerate" = none
  | .setT => X.mg x = none ∧ bootBuiltins x = some (.type "set")
  | .cls ci => X.mg x = some (.ref ci.C) ∧ CiOk X ci
structure Cnd (X : Cx) (m : Cm) (W : WX) : Prop where
  N : X.N = m.N
  nd : m.N.Nodup
  sc : X.env.scope = m.sc
  fn : X.fn = m.F
  calm : X.calm = true
  gd : X.A.guards = some []
  un : X.A.units + 65 < cLine
  tk : Takes X W
  po : PassesOwn (model X.prog X.w) X.A X.env X.xe
  gl : ∀ p ∈ m.tb, GvOk X p.1 p.2
  cl : ∀ ci ∈ m.cl, CiOk X ci
section
variable {X : Cx} {m : Cm} {W : WX}
theorem ixOf_get {x : Str} : ∀ {N : List Str} {i : Nat}, ixOf x N = some i → N[i]? = some x
  | [], i, h => by cases h
  | y :: r, i, h => by
    unfold ixOf at h
    split at h
    · rename_i e; cases h; rw [e]; rfl
    · cases q : ixOf x r with
      | none => rw [q] at h; cases h
      | some j =>
        rw [q] at h
        obtain rfl : j + 1 = i := Option.some.inj h
        have z := ixOf_get q
        simpa using z
theorem Cnd.slot (c : Cnd X m W) {x : Str} {i : Nat} (h : ixOf x m.N = some i) : X.N[i]? = some x := by rw [c.N]; exact ixOf_get h
theorem Cnd.vis (c : Cnd X m W) {x : Str} (h : m.vis x = true) : Vis X.env.scope x := by
  rw [c.sc]
  unfold Cm.vis at h
  split at h
  · rename_i e; exact .inl e
  · rename_i e; exact .inr (.inl e)
  · rename_i e; exact .inr (.inr e)
  · cases h
theorem Cnd.gl1 (c : Cnd X m W) {x : Str} (h : m.glob x = true) : Gl X x := by
  show X.env.scope.names.lookup x = _
  rw [c.sc]
  unfold Cm.glob at h
  split at h
  · assumption
  · cases h
theorem Cnd.get (c : Cnd X m W) {x : Str} {g : Gv} (h : m.get x = some g) : Gl X x ∧ (x == ("__debug__" : Str)) = false ∧ x ≠ "__name__" ∧ GvOk X x g := by
  unfold Cm.get at h
  split at h
  · rename_i e
    rw [Bool.and_eq_true] at e
    obtain ⟨e1, e2⟩ := e
    have e3 : odd x = false := by simpa using e2
    unfold odd at e3
    simp only [Bool.or_eq_false_iff, decide_eq_false_iff_not] at e3
    exact ⟨c.gl1 e1, by simpa using e3.1.1, e3.2, c.gl (x, g) (PySem.mem_of_lookup h)⟩
  · cases h
theorem odd_no {x : Str} (h : odd x = false) : (x == ("__debug__" : Str)) = false ∧ (x == ("__classdict__" : Str)) = false := by
  unfold odd at h
  simp only [Bool.or_eq_false_iff, decide_eq_false_iff_not] at h
  exact ⟨by simpa using h.1.1, by simpa using h.1.2⟩
/-- truth of any value -/
theorem pt_tru {e : Expr} {t : TE} (h : PE X e t) (hp : plainTest e = true) : PT X e (fun σ H Q => t σ H fun x H1 => rTru X.K x H1 Q) :=
  ⟨fun pins s σ H Q I hw => isTrue_plain (thn (h.run pins s σ H _ I hw) fun v s1 ⟨x, H1, I1, r1, q1⟩ => tru_ok pins s1 σ H1 x v Q I1 r1 (tru_of q1)) (isTrue_is hp _)⟩
/-- argument lists with their lengths -/
structure PAn (X : Cx) (es : List Expr) (t : TA) : Prop where
  run : ∀ (pos : Pos) (pins : List (Addr × Obj)) (s : Shared) (σ : L2.St) (H : Hp) (Q : List V → Hp → Prop), Inv X pins σ H s → t σ H Q →
    wpAny (model X.prog X.w) X.A (spliced (backTo pos (starEach es X.env))) (fun us s' => us.length = es.length ∧ AP X pins σ Q us s') X.xe s
theorem PAn.pa {es : List Expr} {t : TA} (h : PAn X es t) : PA X es t := ⟨fun pos pins s σ H Q I hw => thn (h.run pos pins s σ H Q I hw) fun _ _ q => q.2⟩
theorem args_ok {f : Expr → Option E} (hf : ∀ e a, f e = some a → PE X e (wE X.K W a)) : ∀ {es : List Expr} {a : E}, mapE f es = some a → PAn X es (wA X.K W a) ∧ es.all noStar = true ∧ (es = [] → a = .nil)
  | [], a, h => by
    obtain rfl := Option.some.inj h
    exact ⟨⟨fun _ _ _ _ H _ I hw => Calls.spliced_nil ⟨rfl, [], H, I, .nil, hw⟩⟩, rfl, fun _ => rfl⟩
  | e :: es, a, h => by
    unfold mapE at h
    split at h
    · rename_i hn
      split at h
      · rename_i a1 r1 e1 e2
        obtain rfl := Option.some.inj h
        obtain ⟨ih, hall, _⟩ := args_ok hf e2
        refine ⟨⟨fun pos pins s σ H Q I hw => ?_⟩, by rw [List.all_cons, hn, hall]; rfl, fun z => nomatch z⟩
        rw [star_cons hn]
        show wpAny _ _ (spliced ((false, eval e X.env) :: backTo pos (starEach es X.env))) _ _ s
        refine Calls.spliced_cons (thn ((hf e a1 e1).run pins s σ H _ I hw) fun u s1 ⟨x, H1, I1, rx, q1⟩ => ?_)
        exact thn (ih.run pos pins s1 σ H1 _ I1 q1) fun us s2 ⟨hl, xs, H2, I2, rs, q2⟩ => ⟨by rw [List.length_cons, hl, List.length_cons], x :: xs, H2, I2, .cons rx rs, q2⟩
      · cases h
    · cases h
structure PKn (X : Cx) (ks : List Keyword) (t : TA) : Prop where
  run : ∀ (pos : Pos) (pins : List (Addr × Obj)) (s : Shared) (σ : L2.St) (H : Hp) (Q : List V → Hp → Prop), Inv X pins σ H s → t σ H Q →
    wpAny (model X.prog X.w) X.A (evalAll ((backToKw pos (keywordEach ks X.env)).map (·.2))) (fun us s' => us.length = ks.length ∧ AP X pins σ Q us s') X.xe s
theorem kws_ok {f : Expr → Option E} (hf : ∀ e a, f e = some a → PE X e (wE X.K W a)) : ∀ {ks : List Keyword} {a : E}, mapK f ks = some a →
    PKn X ks (wA X.K W a) ∧ (∀ pos, (backToKw pos (keywordEach ks X.env)).all (·.1.isSome) = true) ∧ (∀ pos, (backToKw pos (keywordEach ks X.env)).filterMap (·.1) = kwNames ks) ∧ (∀ pos, (backToKw pos (keywordEach ks X.env)).any (·.1.isNone) = false) ∧ (kwNames ks).length = ks.length
  | [], a, h => by
    obtain rfl := Option.some.inj h
    exact ⟨⟨fun _ _ _ _ H _ I hw => wpAny_evalAll_nil ⟨rfl, [], H, I, .nil, hw⟩⟩, fun _ => rfl, fun _ => rfl, fun _ => rfl, rfl⟩
  | ⟨some x, e, p⟩ :: ks, a, h => by
    unfold mapK at h
    split at h
    · rename_i a1 r1 e1 e2
      obtain rfl := Option.some.inj h
      obtain ⟨ih, h1, h2, h3, h4⟩ := kws_ok hf e2
      refine ⟨⟨fun pos pins s σ H Q I hw => ?_⟩, fun pos => ?_, fun pos => ?_, fun pos => ?_, ?_⟩
      · show wpAny _ _ (evalAll ((do let v ← eval e X.env; standAt pos; pure v) :: (backToKw pos (keywordEach ks X.env)).map (·.2))) _ _ s
        refine wpAny_evalAll_cons (wpAny_bind (thn ((hf e a1 e1).run pins s σ H _ I hw) fun u s1 ⟨x, H1, I1, rx, q1⟩ => wpAny_bind (wpAny_standAt (wpAny_pure ?_))))
        exact thn (ih.run pos pins s1 σ H1 _ I1 q1) fun us s2 ⟨hl, xs, H2, I2, rs, q2⟩ => ⟨by rw [List.length_cons, hl, List.length_cons], x :: xs, H2, I2, .cons rx rs, q2⟩
      · show (true && (backToKw pos (keywordEach ks X.env)).all (·.1.isSome)) = true
        rw [h1 pos]; rfl
      · show x :: (backToKw pos (keywordEach ks X.env)).filterMap (·.1) = x :: kwNames ks
        rw [h2 pos]
      · show (false || (backToKw pos (keywordEach ks X.env)).any (·.1.isNone)) = false
        rw [h3 pos]; rfl
      · show (x :: kwNames ks).length = _
        rw [List.length_cons, h4, List.length_cons]
    · cases h
  | ⟨none, e, p⟩ :: ks, a, h => by cases h
theorem shape_mem {n : Nat} {ks : List Str} {ar : List Ar} : ∀ {sh : List (Nat × List Str × List Ar)}, shapeOf sh n ks = some ar → (n, ks, ar) ∈ sh
  | [], h => by cases h
  | (k, names, a) :: r, h => by
    unfold shapeOf at h
    split at h
    · rename_i e
      obtain ⟨rfl, rfl⟩ := e
      obtain rfl := Option.some.inj h
      exact List.mem_cons_self
    · exact List.mem_cons_of_mem _ (shape_mem h)
/-- the callee runs -/
theorem run_G {k : Nat} {f : Addr} {fd : FuncData} {ps : List Str} {sp : Sp} {n : Nat} {ks : List Str} {ar : List Ar} (F : FnG X.prog X.w X.K X.mg X.base k f fd ps sp) (hr : Room k X.A) (hg : X.A.guards = some []) (hb : KB X.K fd ps n ks ar) (tk : Takes X W)
    {pins : List (Addr × Obj)} {σ : L2.St} {H : Hp} {s : Shared} {Q : VK} {us ws : List Value} {vs zs : List V} (I : Inv X pins σ H s) (rv : Vals vs us) (rz : Vals zs ws) (h1 : us.length = n) (h2 : ws.length = ks.length)
    (h : sp (arr ar vs zs) H Q fun cls d H' => W cls d σ H') : wpAny (model X.prog X.w) X.A (call (.ref f) us (ks.zip ws)) (EP X pins σ Q) X.xe s := by
  obtain ⟨g, g1, g2⟩ := hb
  refine wpAny_call (codeAny_mono (F.go X.A X.stack s H ⟨us, ks.zip ws⟩ (g us ws) (arr ar vs zs) Q _ hr hg I.env0 (g1 s us ws I.kIn h1 h2) (g2 rv rz h1 h2) h) fun r s' hq => ?_)
  cases r with
  | error x => exact tk x s' (XE.of_call I (fun _ _ _ z => z) hq)
  | ok fl =>
    cases fl with
    | ret u => exact I.after hq
    | next => exact False.elim hq
    | brk => exact False.elim hq
    | cont => exact False.elim hq
theorem pe_callG (c : Cnd X m W) {x : Str} {ps : List Str} {sh : List (Nat × List Str × List Ar)} {sp : Sp} {ar : List Ar} {p pos : Pos} {as : List Expr} {ks : List Keyword} {as' ks' : E} (hx : m.get x = some (.fn ps sh sp))
    (ha : PAn X as (wA X.K W as') ∧ as.all noStar = true ∧ (as = [] → as' = .nil)) (hk : PKn X ks (wA X.K W ks') ∧ (∀ pos, (backToKw pos (keywordEach ks X.env)).all (·.1.isSome) = true) ∧ (∀ pos, (backToKw pos (keywordEach ks X.env)).filterMap (·.1) = kwNames ks) ∧ (∀ pos, (backToKw pos (keywordEach ks X.env)).any (·.1.isNone) = false) ∧ (kwNames ks).length = ks.length)
    (hs : shapeOf sh as.length (kwNames ks) = some ar) : PE X (.Call (.Name x p) as ks pos) (wE X.K W (.call sp as' ks' ar)) := by
  obtain ⟨hg, hd, hn, f, fd, k, mg, kp, F, hr, hsh⟩ := c.get hx
  obtain ⟨hk1, hk2, hk3, hk4, hk5⟩ := hk
  have hb := hsh _ (shape_mem hs)
  refine ⟨fun pins s σ H Q I hw => wpAny_Call_Name_kw (ld_glob I hg mg ?_ hd)⟩
  have fin : ∀ (us : List Value) (s1 : Shared), (us.length = as.length ∧ AP X pins σ (fun vs H1 => wA X.K W ks' σ H1 fun zs H2 => sp (arr ar vs zs) H2 Q fun cls d H' => W cls d σ H') us s1) →
      wpAny (model X.prog X.w) X.A (evalAll ((backToKw pos (keywordEach ks X.env)).map (·.2))) (fun ws s2 => X.K.In s2.heap ∧ wpAny (model X.prog X.w) X.A (call (.ref f) ([] ++ us) (((backToKw pos (keywordEach ks X.env)).filterMap (·.1)).zip ws)) (EP X pins σ Q) X.xe s2) X.xe s1 := by
    rintro us s1 ⟨hl, vs, H1, I1, rv, q1⟩
    refine thn (hk1.run pos pins s1 σ H1 _ I1 q1) fun ws s2 ⟨hl2, zs, H2, I2, rz, q2⟩ => ⟨I2.kIn, ?_⟩
    rw [hk3, List.nil_append]
    exact run_G F hr c.gd hb c.tk I2 rv rz hl (by rw [hl2, hk5]) q2
  cases as with
  | nil =>
    have e0 := ha.2.2 rfl
    subst e0
    refine PySem.W.callWith_KW0 (h₀ := X.base) I.ok.mod.kin kp (hk2 pos) ?_ (by show (false || _) = false; rw [hk4]; rfl)
    exact fin [] s ⟨rfl, [], H, I, .nil, hw⟩
  | cons e es =>
    have hall := ha.2.1
    rw [List.all_cons, Bool.and_eq_true] at hall
    exact PySem.W.callWith_KW (h₀ := X.base) I.ok.mod.kin kp (hk2 pos) (thn (ha.1.run pos pins s σ H _ I hw) fin) (by rw [star_any ha.2.1, hk4]; rfl) (star_cons hall.1)
end
end CW

namespace CW
open PySem PySem.Spec PyProof.Rows L2
/-! ## 8. Each construct -/
section
variable {X : Cx} {m : Cm} {W : WX}
/-- a list is forgotten -/
theorem Inv.drop {pins : List (Addr × Obj)} {σ : L2.St} {H : Hp} {s : Shared} {D : Addr} {acc : List V} (I : Inv X pins σ H s) (hD : H D = some (.lst acc)) : Inv X pins σ (dropA H D) s := by
  have no : ∀ {b : Addr}, H b = none → dropA H D b = none := fun {b} e => by unfold dropA; split <;> first | rfl | exact e
  have yes : ∀ {b : Addr} {o : HO}, H b = some o → (∀ xs, o ≠ .lst xs) → dropA H D b = some o := fun {b o} e hn => by
    unfold dropA
    rw [if_neg (fun z => by rw [z, hD] at e; exact hn acc (Option.some.inj e).symm)]
    exact e
  refine ⟨I.ok, I.os, I.bare, ⟨I.base.keep, I.base.slot, fun b o e n hx => no (I.base.free b o e n hx), I.base.there, fun b xs e => yes (I.base.tups b xs e) (fun _ z => nomatch z), fun b o u e => yes (I.base.frzs b o u e) (fun _ z => nomatch z), fun b ps e => ?_⟩,
    I.loc, I.cell, no I.free, fun x c e => no (I.freeC x c e), fun p hp => ?_, fun b o e => ?_, I.len⟩
  · obtain ⟨more, q⟩ := I.base.tbls b ps e
    exact ⟨more, yes q (fun _ z => nomatch z)⟩
  · obtain ⟨h1, h2, h3⟩ := I.pin p hp
    exact ⟨h1, no h2, h3⟩
  · have eb : H b = some o := by
      unfold dropA at e
      split at e
      · cases e
      · exact e
    exact (I.hok b o eb).stay (fun _ _ _ q => q) (fun c q => yes q (fun _ z => nomatch z)) fun c xs q => yes q (fun _ z => nomatch z)
theorem base_S {o : Expr} {nm : Str} {env : Env} (h : notSuper o = true) : attributeBase o nm env (eval o env) = eval o env := by
  unfold attributeBase
  unfold notSuper at h
  split
  · cases h
  · rfl
theorem pe_notM {a : Expr} {ta : TE} {pos : Pos} (ha : PE X a ta) : PE X (.UnaryOp .Not a pos) (fun σ H Q => ta σ H fun x H1 => match x with | .bl k => Q (.bl (!k)) H1 | _ => False) :=
  ⟨fun pins s σ H Q I h => UnaryOp_ (thn (ha.run pins s σ H _ I h) fun v s1 ⟨x, H1, I1, r1, q1⟩ => by
    cases x with
    | bl k => cases r1; exact not_of (wpAny_truthy_bool ⟨.bl (!k), H1, I1, rfl, q1⟩)
    | _ => exact q1.elim)⟩
theorem pe_andM {a b : Expr} {rest : List Expr} {ta tb : TE} {pos : Pos} (ha : PE X a ta) (hb : PE X (.BoolOp .And (b :: rest) pos) tb) :
    PE X (.BoolOp .And (a :: b :: rest) pos) (fun σ H Q => ta σ H fun x H1 => match x with | .bl k => if k = true then tb σ H1 Q else Q (.bl false) H1 | _ => False) :=
  ⟨fun pins s σ H Q I h => BoolOp_and (thn (ha.run pins s σ H _ I h) fun v s1 ⟨x, H1, I1, r1, q1⟩ => by
    cases x with
    | bl k =>
      cases r1
      refine wpAny_truthy_bool ?_
      cases k with
      | true => exact hb.run pins s1 σ H1 Q I1 q1
      | false => exact ⟨.bl false, H1, I1, rfl, q1⟩
    | _ => exact q1.elim)⟩
theorem pe_orM {a b : Expr} {rest : List Expr} {ta tb : TE} {pos : Pos} (ha : PE X a ta) (hb : PE X (.BoolOp .Or (b :: rest) pos) tb) :
    PE X (.BoolOp .Or (a :: b :: rest) pos) (fun σ H Q => ta σ H fun x H1 => match x with | .bl k => if k = true then Q (.bl true) H1 else tb σ H1 Q | _ => False) :=
  ⟨fun pins s σ H Q I h => BoolOp_or (thn (ha.run pins s σ H _ I h) fun v s1 ⟨x, H1, I1, r1, q1⟩ => by
    cases x with
    | bl k =>
      cases r1
      refine wpAny_truthy_bool ?_
      cases k with
      | true => exact ⟨.bl true, H1, I1, rfl, q1⟩
      | false => exact hb.run pins s1 σ H1 Q I1 q1
    | _ => exact q1.elim)⟩
theorem pt_cmpM {a b : Expr} {ta tb : TE} {pos : Pos} {op : CmpOp} {r : R2} (ho : OpR X (compareOp op) r) (ha : PE X a ta) (hb : PE X b tb) (hm : behindInMarks op b = false) :
    PT X (.Compare a [op] [b] pos) (fun σ H Q => ta σ H fun x H1 => tb σ H1 fun y H2 => r x y H2 fun z H3 => match z with | .bl k => Q k H3 | _ => False) := by
  refine ⟨fun pins s σ H Q I h => wpAny_isTrue_Compare1 (thn (ha.run pins s σ H _ I h) fun v s1 ⟨x, H1, I1, r1, q1⟩ => thn (hb.run pins s1 σ H1 _ I1 q1) fun u s2 ⟨y, H2, I2, r2, q2⟩ =>
    thn (ho pins s2 σ H2 x y v u _ I2 r1 r2 q2) fun d s3 ⟨z, H3, I3, r3, q3⟩ => ?_) hm⟩
  cases z with
  | bl k => cases r3; exact wpAny_truthy_bool ⟨H3, I3, q3⟩
  | _ => exact q3.elim

theorem lastMarks2 {op op' : CmpOp} {b c : Expr} (h : behindInMarks op' c = false) : lastMarks [op, op'] [b, c] = false := h
theorem pe_chainM {a b c : Expr} {ta tb tc : TE} {pos : Pos} {op op' : CmpOp} {r r' : R2} (ho : OpR X (compareOp op) r) (ho' : OpR X (compareOp op') r') (ha : PE X a ta) (hb : PE X b tb) (hc : PE X c tc) (hm : behindInMarks op' c = false) :
    PE X (.Compare a [op, op'] [b, c] pos) (fun σ H Q => ta σ H fun x H1 => tb σ H1 fun y H2 => r x y H2 fun z H3 => match z with | .bl k => if k = true then tc σ H3 fun u H4 => r' y u H4 Q else Q (.bl false) H3 | _ => False) := by
  refine ⟨fun pins s σ H Q I h => Compare_chain (thn (ha.run pins s σ H _ I h) fun v s1 ⟨x, H1, I1, r1, q1⟩ => chain_link (thn (hb.run pins s1 σ H1 _ I1 q1) fun u s2 ⟨y, H2, I2, r2, q2⟩ =>
    thn (ho pins s2 σ H2 x y v u _ I2 r1 r2 q2) fun d s3 ⟨z, H3, I3, r3, q3⟩ => ?_)) (lastMarks2 hm)⟩
  cases z with
  | bl k =>
    cases r3
    refine wpAny_truthy_bool ?_
    cases k with
    | false => exact ite_ff ⟨.bl false, H3, I3, rfl, q3⟩
    | true => exact ite_tt (chain_last (thn (hc.run pins s3 σ H3 _ I3 q3) fun w' s4 ⟨z', H4, I4, r4, q4⟩ => ho' pins s4 σ H4 y z' u w' Q I4 r2 r4 q4))
  | _ => exact q3.elim
theorem pt_chainM {a b c : Expr} {ta tb tc : TE} {pos : Pos} {op op' : CmpOp} {r r' : R2} (ho : OpR X (compareOp op) r) (ho' : OpR X (compareOp op') r') (ha : PE X a ta) (hb : PE X b tb) (hc : PE X c tc) (hm : behindInMarks op' c = false) :
    PT X (.Compare a [op, op'] [b, c] pos) (fun σ H Q => ta σ H fun x H1 => tb σ H1 fun y H2 => r x y H2 fun z H3 => match z with | .bl k => if k = true then tc σ H3 fun u H4 => r' y u H4 fun z2 H5 => (match z2 with | .bl k2 => Q k2 H5 | _ => False) else Q false H3 | _ => False) := by
  refine ⟨fun pins s σ H Q I h => isTrue_chain (thn (ha.run pins s σ H _ I h) fun v s1 ⟨x, H1, I1, r1, q1⟩ => test_link (thn (hb.run pins s1 σ H1 _ I1 q1) fun u s2 ⟨y, H2, I2, r2, q2⟩ =>
    thn (ho pins s2 σ H2 x y v u _ I2 r1 r2 q2) fun d s3 ⟨z, H3, I3, r3, q3⟩ => ?_)) (lastMarks2 hm)⟩
  cases z with
  | bl k =>
    cases r3
    refine wpAny_truthy_bool ?_
    cases k with
    | false => exact ite_ff ⟨H3, I3, q3⟩
    | true =>
      refine ite_tt (test_last (thn (hc.run pins s3 σ H3 _ I3 q3) fun w' s4 ⟨z', H4, I4, r4, q4⟩ => thn (ho' pins s4 σ H4 y z' u w' _ I4 r2 r4 q4) fun d' s5 ⟨z2, H5, I5, r5, q5⟩ => ?_))
      cases z2 with
      | bl k2 => cases r5; exact wpAny_truthy_bool ⟨H5, I5, q5⟩
      | _ => exact q5.elim
  | _ => exact q3.elim
theorem po_okM {f : Expr → Option E} (hf : ∀ e a, f e = some a → PE X e (wE X.K W a)) : ∀ {o : Option Expr} {a : E}, optE f o = some a → PO X o (wO X.K W a)
  | none, a, h => by
    obtain rfl := Option.some.inj h
    exact po_none
  | some e, a, h => by
    simp only [optE] at h
    split at h
    · rename_i a1 e1
      obtain rfl := Option.some.inj h
      refine ⟨fun pins s σ H Q I hw => ?_⟩
      rw [evalPart_some]
      refine thn ((hf e a1 e1).run pins s σ H _ I hw) fun u s1 ⟨x, H1, I1, r1, q1⟩ => ?_
      cases x with
      | int i => obtain ⟨t, rfl⟩ := r1; exact ⟨some i, H1, I1, .int i t, q1⟩
      | _ => exact q1.elim
    · cases h
theorem pps_ok {f : Expr → Option E} (hf : ∀ e a, f e = some a → PE X e (wE X.K W a)) {pos : Pos} : ∀ {ks : List (Option Expr)} {vs : List Expr} {a b : E}, ks.length = vs.length → mapO f ks = some a → mapE f vs = some b →
    PPs X pos ks vs ((wL X.K W a).zip (wL X.K W b)) ∧ ks.all (·.isSome) = true
  | [], [], a, b, _, h1, h2 => by
    obtain rfl := Option.some.inj h1
    obtain rfl := Option.some.inj h2
    exact ⟨pps_nil, rfl⟩
  | [], _ :: _, _, _, hl, _, _ => nomatch hl
  | _ :: _, [], _, _, hl, _, _ => nomatch hl
  | none :: _, _ :: _, _, _, _, h1, _ => by cases h1
  | some k :: ks, v :: vs, a, b, hl, h1, h2 => by
    unfold mapO at h1
    unfold mapE at h2
    split at h1
    · rename_i a1 r1 e1 e2
      obtain rfl := Option.some.inj h1
      split at h2
      · split at h2
        · rename_i a2 r2 e3 e4
          obtain rfl := Option.some.inj h2
          obtain ⟨p, q⟩ := pps_ok hf (pos := pos) (Nat.succ.inj hl) e2 e4
          exact ⟨pps_cons (hf _ _ e1) (hf _ _ e3) p, by rw [List.all_cons, q]; rfl⟩
        · cases h2
      · cases h2
    · cases h1
theorem pe_dctM {f : Expr → Option E} (hf : ∀ e a, f e = some a → PE X e (wE X.K W a)) {pos : Pos} {ks : List (Option Expr)} {vs : List Expr} {a b : E} (hl : ks.length = vs.length) (h15 : ks.length ≤ 15) (h1 : mapO f ks = some a) (h2 : mapE f vs = some b) :
    PE X (.Dict ks vs pos) (wE X.K W (.dct a b)) := by
  obtain ⟨p, q⟩ := pps_ok hf (pos := pos) hl h1 h2
  cases ks with
  | nil =>
    cases vs with
    | nil =>
      obtain rfl := Option.some.inj h1
      obtain rfl := Option.some.inj h2
      refine ⟨fun pins s σ H Q I hw => pe_dnewK.run pins s σ H Q I fun p hp => ?_⟩
      obtain ⟨_, kvs, e, _, q⟩ := hw p hp
      cases kvs with
      | nil => rw [upd_upd] at q; exact q
      | cons _ _ => cases e
    | cons _ _ => cases hl
  | cons k ks => exact pe_disp p q hl (fun z => nomatch z) h15
theorem val_cases (b : Bi) : (∃ id, b.val = .builtin id) ∨ ∃ T, b.val = .type T := by cases b <;> first | exact .inl ⟨_, rfl⟩ | exact .inr ⟨_, rfl⟩
/-- a built-in's call over what its arguments give -/
theorem call_B (c : Cnd X m W) {x : Str} {b : Bi} {p pos : Pos} {e : Expr} {es : List Expr} (hg : Gl X x) (hd : (x == ("__debug__" : Str)) = false) (hn : x ≠ "__name__") (hm : X.mg x = none) (hv : bootBuiltins x = some b.val) (hall : (e :: es).all noStar = true)
    {pins : List (Addr × Obj)} {s : Shared} {σ : L2.St} {H : Hp} {Q : Value → Shared → Prop} (I : Inv X pins σ H s)
    (h : wpAny (model X.prog X.w) X.A (spliced (backTo pos (starEach (e :: es) X.env))) (fun us s1 => wpAny (model X.prog X.w) X.A (call b.val us) Q X.xe s1) X.xe s) : wpAny (model X.prog X.w) X.A (eval (.Call (.Name x p) (e :: es) [] pos) X.env) Q X.xe s := by
  have h2 := hall
  rw [List.all_cons, Bool.and_eq_true] at h2
  refine wpAny_Call_Name_kw (ld_blt I hg hm hv ?_ hn hd)
  rcases val_cases b with ⟨id, e1⟩ | ⟨T, e1⟩
  · rw [e1] at h ⊢
    exact PyProof.Rows.callWith_builtin1 h (star_cons h2.1) (star_any h2.2)
  · rw [e1] at h ⊢
    exact PyProof.Rows.callWith_type1 h (star_cons h2.1) (star_any h2.2)
theorem pe_biM (c : Cnd X m W) {x : Str} {b : Bi} {p pos : Pos} {e : Expr} {es : List Expr} {a : E} (hg : Gl X x) (hd : (x == ("__debug__" : Str)) = false) (hn : x ≠ "__name__") (hm : X.mg x = none) (hv : bootBuiltins x = some b.val)
    (ha : PAn X (e :: es) (wA X.K W a)) (hall : (e :: es).all noStar = true) : PE X (.Call (.Name x p) (e :: es) [] pos) (wE X.K W (.bi b a)) :=
  ⟨fun pins s σ H Q I hw => call_B c hg hd hn hm hv hall I (thn (ha.run pos pins s σ H _ I hw) fun us s1 ⟨_, vs, H1, I1, r1, q1⟩ => bi_ok c.calm c.gd c.un b pins s1 σ H1 vs us Q I1 r1 q1)⟩
theorem pe_bidM (c : Cnd X m W) {x : Str} {b : Bi} {p pos : Pos} {e : Expr} {a : E} (hg : Gl X x) (hd : (x == ("__debug__" : Str)) = false) (hn : x ≠ "__name__") (hm : X.mg x = none) (hv : bootBuiltins x = some b.val)
    (ha : PE X e (wE X.K W a)) (hs : noStar e = true) : PE X (.Call (.Name x p) [e] [] pos) (wE X.K W (.bid b a)) := by
  refine ⟨fun pins s σ H Q I hw => call_B c hg hd hn hm hv (by rw [List.all_cons, hs]; rfl) I ?_⟩
  rw [star_cons hs]
  show wpAny _ _ (spliced ((false, eval e X.env) :: backTo pos (starEach [] X.env))) _ _ s
  refine Calls.spliced_cons (thn (ha.run pins s σ H _ I hw) fun u s1 ⟨y, H1, I1, ry, q1⟩ => Calls.spliced_nil ?_)
  obtain ⟨D, acc, rfl, hD, q⟩ := q1
  refine thn (bi_ok c.calm c.gd c.un b pins s1 σ H1 [.ref D] [u] _ I1 (.cons ry .nil) q) fun z s2 ⟨zv, H2, I2, rz, hD2, q2⟩ => ?_
  exact ⟨zv, dropA H2 D, Inv.drop I2 hD2, rz, q2⟩
/-- a method of a built-in kind -/
theorem pe_bmM {T id : String} {name : Str} {ty : V → Hp → Prop} {r : V → List V → Hp → VK → Prop} {o e : Expr} {es : List Expr} {to : TE} {t : TA} {apos cpos : Pos} (pa : PlainAttrs T) (slot : Slot T name id) (hty : typeOf (.builtin id) = pure (.type "method_descriptor"))
    (hm : MtR X id r) (hT : ∀ x H, ty x H → tyV X.K T x H) (ho : PE X o to) (ha : PAn X (e :: es) t) (hall : (e :: es).all noStar = true) (hs : notSuper o = true) (hline : (apos.endLine == cpos.line) = true) (hlen : (e :: es).length < 29) :
    PE X (.Call (.Attribute o name apos) (e :: es) [] cpos) (fun σ H Q => to σ H fun x H1 => ty x H1 ∧ t σ H1 fun xs H2 => r x xs H2 Q) := by
  have h2 := hall
  rw [List.all_cons, Bool.and_eq_true] at h2
  refine ⟨fun pins s σ H Q I h => ?_⟩
  have few : ((backTo cpos (starEach (e :: es) X.env)).all (fun x => !x.1) && (backToKw cpos (keywordEach [] X.env)).all (fun x => x.1.isSome) && decide ((e :: es).length + ([] : List Keyword).length + (if ([] : List Keyword).isEmpty then 0 else 1) < 30)) = true := by
    rw [star_all hall]
    show (true && true && decide ((e :: es).length + 0 + 0 < 30)) = true
    rw [decide_eq_true (by omega)]; rfl
  refine wpAny_Call_method_late (base_S hs) few hline rfl (thn (ho.run pins s σ H _ I h) fun v s1 ⟨x, H1, I1, r1, hy, q1⟩ => ?_)
  obtain ⟨z1, z2⟩ := tyV_is I1 r1 (hT _ _ hy)
  refine ⟨T, id, pa, slot, hty, z1, z2, ?_⟩
  have hA := ha.run cpos pins s1 σ H1 _ I1 q1
  rw [star_cons h2.1] at hA ⊢
  refine Calls.callWith_builtin (by show (false || (backTo cpos (starEach es X.env)).any (·.1)) = false; rw [star_any h2.2]; rfl) (Calls.evalArgs_plain ?_)
  exact thn hA fun us s2 ⟨_, vs, H2, I2, r2, q2⟩ => hm pins s2 σ H2 x vs v us Q I2 r1 r2 q2
end
end CW

namespace CW
open PySem PySem.Spec PyProof.Rows L2
/-! ## 7b. Own classes: fields, methods, new instances -/
section
variable {X : Cx} {m : Cm} {W : WX}
theorem in1_guards {A : Around} (h : A.guards = some []) : A.in1.guards = some [] := h
/-- a def of the class runs in the context A, whatever raises being wished for -/
theorem run_at {f : Addr} {fd : FuncData} {ps : List Str} {sp : Sp} {k n : Nat} {ks : List Str} {ar : List Ar} (F : FnG X.prog X.w X.K X.mg X.base k f fd ps sp) (hb : KB X.K fd ps n ks ar) {A : Around} (hr : Room k A) (hg : A.guards = some [])
    {pins : List (Addr × Obj)} {σ : L2.St} {H : Hp} {s : Shared} {Q : VK} {R : XK} {us ws : List Value} {vs zs : List V} (I : Inv X pins σ H s) (hA : A.frames = some X.stack) (rv : Vals vs us) (rz : Vals zs ws) (h1 : us.length = n) (h2 : ws.length = ks.length)
    (h : sp (arr ar vs zs) H Q R) : codeAny (model X.prog X.w) A (.call (.ref f) ⟨us, ks.zip ws⟩) (CR (L2.CX X.prog X.w) X.stack X.prog X.w H s Q R) s := by
  obtain ⟨g, g1, g2⟩ := hb
  have e0 := I.env0
  exact F.go A X.stack s H ⟨us, ks.zip ws⟩ (g us ws) (arr ar vs zs) Q R hr hg ⟨hA, e0.mod, e0.bs, e0.bsz, e0.funs, e0.frf, e0.hok, e0.bare⟩ (g1 s us ws I.kIn h1 h2) (g2 rv rz h1 h2) h
theorem fl_mem {cl : List CI} {nm : Str} {C : Addr} (h : C ∈ flOf cl nm) : ∃ ci ∈ cl, ci.C = C ∧ nm ∈ ci.fl := by
  obtain ⟨ci, h1, h2⟩ := List.mem_filterMap.mp h
  split at h2
  · rename_i e
    exact ⟨ci, h1, Option.some.inj h2, by simpa using e⟩
  · cases h2
theorem pr_mem {cl : List CI} {nm : Str} {C : Addr} {sp : Sp} (h : (C, sp) ∈ prOf cl nm) : ∃ ci ∈ cl, ci.C = C ∧ (nm, sp) ∈ ci.prs := by
  obtain ⟨ci, h1, h2⟩ := List.mem_filterMap.mp h
  cases e : ci.prs.lookup nm with
  | none => rw [e] at h2; cases h2
  | some q =>
    rw [e] at h2
    have := Option.some.inj h2
    cases this
    exact ⟨ci, h1, rfl, PySem.mem_of_lookup e⟩
theorem co_mem {cl : List CI} {nm : Str} {C : Addr} {v : V} (h : (C, v) ∈ coOf cl nm) : ∃ ci ∈ cl, ci.C = C ∧ (nm, v) ∈ ci.cs := by
  obtain ⟨ci, h1, h2⟩ := List.mem_filterMap.mp h
  cases e : ci.cs.lookup nm with
  | none => rw [e] at h2; cases h2
  | some q =>
    rw [e] at h2
    have := Option.some.inj h2
    cases this
    exact ⟨ci, h1, rfl, PySem.mem_of_lookup e⟩
theorem ms_mem {cl : List CI} {nm : Str} {n : Nat} {ks : List Str} {C : Addr} {sp : Sp} {ar : List Ar} (h : (C, sp, ar) ∈ msOf cl nm n ks) : ∃ ci ∈ cl, ci.C = C ∧ ∃ mi, (nm, mi) ∈ ci.ms ∧ mi.sp = sp ∧ (n, ks, ar) ∈ mi.sh := by
  obtain ⟨ci, h1, h2⟩ := List.mem_filterMap.mp h
  cases e : ci.ms.lookup nm with
  | none => rw [e] at h2; cases h2
  | some mi =>
    rw [e] at h2
    have h2 : (shapeOf mi.sh n ks).map (fun ar => (ci.C, mi.sp, ar)) = some (C, sp, ar) := h2
    cases e2 : shapeOf mi.sh n ks with
    | none => rw [e2] at h2; cases h2
    | some q =>
      rw [e2] at h2
      have := Option.some.inj h2
      cases this
      exact ⟨ci, h1, rfl, mi, PySem.mem_of_lookup e, rfl, shape_mem e2⟩
theorem getprop_G {pins : List (Addr × Obj)} {σ : L2.St} {H : Hp} {s : Shared} {Q : VK} {b : Bool} {E' : Value → Shared → Prop} {C p g a dx : Addr} {fs : List (Str × V)} {f : Str} {sp : Sp} (I : Inv X pins σ H s) (hgd : X.A.guards = some []) (ea : H a = some (.ins C dx fs)) (c : Cls X.K C) (hp : PropOf X.K C f p g)
    (M : MiOk X g ⟨["self"], [(1, [], [.p 0])], sp⟩) (h : sp [.ref a] H Q fun _ _ _ => False) : wpAny (model X.prog X.w) X.A (getAttr (.ref a) f b) (EP X pins σ Q) E' s := by
  obtain ⟨fd, k, F, hr, hsh⟩ := M
  have hb := hsh (1, [], [.p 0]) (by simp)
  obtain ⟨mA, O, _, _, _, _⟩ := ins_get I.hok ea
  obtain ⟨od, J, _⟩ := O.look
  obtain ⟨rest, hrec⟩ := hp.rec_
  have I1 := I.tok (s.toks + 1)
  have hc : (PySem.W.clsIn X.K C).isSome = true := by
    obtain ⟨cd, hc, _⟩ := PySem.W.any_some c.hd
    rw [hc]
    rfl
  refine PySem.W.get_bind I.kIn J (PySem.W.plainGet_of (c.get f)).1 (PySem.W.findObj_data hc hp.at_ hp.get hp.tak) (PySem.W.plainGet_of (c.get f)).2 (wpAny_call (PySem.W.prop_get (s := { s with toks := s.toks + 1 }) I.kIn hrec ?_))
  refine codeAny_mono (run_at (A := X.A.in1) (us := [.ref a]) (ws := []) (vs := [.ref a]) (zs := []) (Q := Q) (R := fun _ _ _ => False) F hb hr.in1 (in1_guards hgd) I1 I1.env0.in1.frames (.cons rfl .nil) .nil rfl rfl h) fun r s' hq => ?_
  cases r with
  | error er =>
    obtain ⟨_, _, _, _, _, _, _, _, _, _, _, _, no⟩ := hq
    exact no.elim
  | ok fl =>
    cases fl with
    | ret u =>
      obtain ⟨v, H', I3, rv, q3⟩ := I1.after hq
      show wpAny _ _ (handedOut u) _ _ _
      rw [PySem.W.handedOut_of (handed_of rv)]
      exact wpAny_pure ⟨v, H', I3, rv, q3⟩
    | next => exact False.elim hq
    | brk => exact False.elim hq
    | cont => exact False.elim hq
theorem pe_attrO (c : Cnd X m W) {e : Expr} {nm : Str} {pos : Pos} {te : TE} (he : PE X e te) (hb : attributeBase e nm X.env (eval e X.env) = eval e X.env) :
    PE X (.Attribute e nm pos) (fun σ H Q => te σ H fun x H1 => rAttr (flOf m.cl nm) (prOf m.cl nm) (coOf m.cl nm) nm x H1 Q) := by
  refine ⟨fun pins s σ H Q I h => ?_⟩
  refine attr_of hb (thn (he.run pins s σ H _ I h) fun u s1 ⟨x, H1, I1, rx, a, C, dx, fs, ex, ea, q⟩ => ?_)
  subst ex
  obtain rfl : u = Value.ref a := rx
  rcases q with ⟨hC, v, hl, q⟩ | ⟨sp, hC, q⟩ | ⟨v, hC, hl, q⟩
  · obtain ⟨ci, h1, rfl, h3⟩ := fl_mem hC
    have k := c.cl ci h1
    exact getattr_ok I1 ea k.c (k.fl _ h3) hl fun u' s2 I2 ru => ⟨v, H1, I2, ru, q⟩
  · obtain ⟨ci, h1, rfl, h3⟩ := pr_mem hC
    have k := c.cl ci h1
    obtain ⟨pr, g, hp, M⟩ := k.prs _ h3
    exact getprop_G I1 c.gd ea k.c hp M q
  · obtain ⟨ci, h1, rfl, h3⟩ := co_mem hC
    have k := c.cl ci h1
    obtain ⟨u0, ck⟩ := k.cs _ h3
    exact getcon_ok I1 ea k.c ck hl fun s2 I2 => ⟨v, H1, I2, ck.rel, q⟩
theorem call_own {f : Addr} {mi : MI} {n : Nat} {ks : List Str} {ar : List Ar} (c : Cnd X m W) (M : MiOk X f mi) (hs : (n, ks, ar) ∈ mi.sh) {pins : List (Addr × Obj)} {σ : L2.St} {H : Hp} {s : Shared} {Q : VK} {us ws : List Value} {vs zs : List V} (I : Inv X pins σ H s)
    (rv : Vals vs us) (rz : Vals zs ws) (h1 : us.length = n) (h2 : ws.length = ks.length) (h : mi.sp (arr ar vs zs) H Q fun cls d H' => W cls d σ H') : wpAny (model X.prog X.w) X.A (call (.ref f) us (ks.zip ws)) (EP X pins σ Q) X.xe s := by
  obtain ⟨fd, k, F, hr, hsh⟩ := M
  exact run_G F (hr.mono (Nat.le_succ _)) c.gd (hsh _ hs) c.tk I rv rz h1 h2 h
theorem pe_mcall (c : Cnd X m W) {o : Expr} {nm : Str} {apos pos : Pos} {as : List Expr} {ks : List Keyword} {to : TE} {as' ks' : E} (ho : PE X o to) (hsup : notSuper o = true) (hline : (apos.endLine == pos.line) = true) (hfew : as.length + ks.length < 28)
    (ha : PAn X as (wA X.K W as') ∧ as.all noStar = true ∧ (as = [] → as' = .nil)) (hk : PKn X ks (wA X.K W ks') ∧ (∀ pos, (backToKw pos (keywordEach ks X.env)).all (·.1.isSome) = true) ∧ (∀ pos, (backToKw pos (keywordEach ks X.env)).filterMap (·.1) = kwNames ks) ∧ (∀ pos, (backToKw pos (keywordEach ks X.env)).any (·.1.isNone) = false) ∧ (kwNames ks).length = ks.length) :
    PE X (.Call (.Attribute o nm apos) as ks pos) (fun σ H Q => to σ H fun x H1 => rMeth (msOf m.cl nm (as.length + 1) (kwNames ks)) nm x H1 fun sp ar => wA X.K W as' σ H1 fun vs H2 => wA X.K W ks' σ H2 fun zs H3 => sp (arr ar (x :: vs) zs) H3 Q fun cls d H' => W cls d σ H') := by
  obtain ⟨hk1, hk2, hk3, hk4, hk5⟩ := hk
  refine ⟨fun pins s σ H Q I h => ?_⟩
  rw [arm_eval_Call, base_S hsup]
  refine wpAny_bind (thn (ho.run pins s σ H _ I h) fun u s1 ⟨x, H1, I1, rx, a, C, dx, fs, sp, ar, ex, ea, hl, hopt, q⟩ => wpAny_bind (wpAny_standAt ?_))
  subst ex
  obtain rfl : u = Value.ref a := rx
  obtain ⟨ci, hci, rfl, mi, hmi, rfl, hsh⟩ := ms_mem hopt
  have k := c.cl ci hci
  obtain ⟨f, hM, hfn, M⟩ := k.ms _ hmi
  have hform : methodCallForm (as.length + ks.length) (backTo pos (starEach as X.env)) (backToKw pos (keywordEach ks X.env)) = true := by
    unfold methodCallForm
    rw [star_all ha.2.1, hk2]
    simp only [Bool.true_and, decide_eq_true_eq]
    split <;> omega
  have hpos : methodCallPos true o X.env apos pos = pure pos := by unfold methodCallPos; simp [hline]
  unfold methodCall
  rw [hform]
  refine wpAny_bind (wpAny_holding (getmeth_ok I1 ea k.c hM hl ?_))
  refine wpAny_bind (wpAny_of_eq hpos ?_)
  have fin : ∀ (us : List Value) (s2 : Shared), (us.length = as.length ∧ AP X pins σ (fun vs H2 => wA X.K W ks' σ H2 fun zs H3 => mi.sp (arr ar (.ref a :: vs) zs) H3 Q fun cls d H' => W cls d σ H') us s2) →
      wpAny (model X.prog X.w) X.A (evalAll ((backToKw pos (keywordEach ks X.env)).map (·.2))) (fun ws s3 => X.K.In s3.heap ∧ wpAny (model X.prog X.w) X.A (call (.ref f) ([.ref a] ++ us) (((backToKw pos (keywordEach ks X.env)).filterMap (·.1)).zip ws)) (EP X pins σ Q) X.xe s3) X.xe s2 := by
    rintro us s2 ⟨hl2, vs, H2, I2, rv, q2⟩
    refine thn (hk1.run pos pins s2 σ H2 _ I2 q2) fun ws s3 ⟨hl3, zs, H3, I3, rz, q3⟩ => ⟨I3.kIn, ?_⟩
    rw [hk3]
    exact call_own (vs := .ref a :: vs) (us := .ref a :: us) c M hsh I3 (.cons rfl rv) rz (by simp [hl2]) (by rw [hl3, hk5]) q3
  cases as with
  | nil =>
    have e0 := ha.2.2 rfl
    subst e0
    refine PySem.W.callWith_KW0 (h₀ := X.base) I.ok.mod.kin hM.kp (hk2 pos) ?_ (by show (false || _) = false; rw [hk4]; rfl)
    exact fin [] s1 ⟨rfl, [], H1, I1, .nil, q⟩
  | cons e es =>
    have hall := ha.2.1
    rw [List.all_cons, Bool.and_eq_true] at hall
    exact PySem.W.callWith_KW (h₀ := X.base) I.ok.mod.kin hM.kp (hk2 pos) (thn (ha.1.run pos pins s1 σ H1 _ I1 q) fin) (by rw [star_any ha.2.1, hk4]; rfl) (star_cons hall.1)
/-- C(..) -/
theorem run_makeG {C f : Addr} {mi : MI} {n : Nat} {ks : List Str} {ar : List Ar} (c : Cnd X m W) (Mk0 : Mk X.K C f) (M : MiOk X f mi) (hs : (n + 1, ks, ar) ∈ mi.sh) {pins : List (Addr × Obj)} {σ : L2.St} {H : Hp} {s : Shared} {Q : VK} {us ws : List Value} {vs zs : List V} (I : Inv X pins σ H s)
    (rv : Vals vs us) (rz : Vals zs ws) (h1 : us.length = n) (h2 : ws.length = ks.length)
    (h : ∀ x dx, H x = none → H dx = none → dx ≠ x → mi.sp (arr ar (.ref x :: vs) zs) (upd (upd H dx (.own x)) x (.ins C dx [])) (fun v H2 => v = .non ∧ Q (.ref x) H2) fun cls d H' => W cls d σ H') :
    wpAny (model X.prog X.w) X.A (call (.ref C) us (ks.zip ws)) (EP X pins σ Q) X.xe s := by
  obtain ⟨fd, k, F, hr, hsh⟩ := M
  obtain ⟨g, g1, g2⟩ := hsh _ hs
  have hq := h (s.heap.objs.size + 1) s.heap.objs.size (I.hok.fresh (Nat.le_succ _)) (I.hok.fresh (Nat.le_refl _)) (Nat.ne_of_lt (Nat.lt_succ_self _))
  have I2 := Inv.made (C := C) I
  have r1 : Vals (V.ref (s.heap.objs.size + 1) :: vs) (Value.ref (s.heap.objs.size + 1) :: us) := .cons rfl rv
  have e1 : (Value.ref (s.heap.objs.size + 1) :: us).length = n + 1 := congrArg Nat.succ h1
  refine wpAny_call (make_map (f := f) I.kIn Mk0.makes Mk0.init (beq_iff_eq.mp Mk0.fn) (codeAny_mono (F.go _ X.stack _ _ ⟨Value.ref (s.heap.objs.size + 1) :: us, ks.zip ws⟩ (g (Value.ref (s.heap.objs.size + 1) :: us) ws) _ _ (fun cls d H' => W cls d σ H') (hr.make C us (ks.zip ws)) ?_
    (I2.env0.make C us (ks.zip ws)) (g1 _ (Value.ref (s.heap.objs.size + 1) :: us) ws I2.kIn e1 h2) (g2 r1 rz e1 h2) hq) fun r s' hq' => ?_))
  · have := c.gd
    show (X.A.under _).guards = some []
    unfold Around.under
    rw [this]
    rfl
  cases r with
  | error e => exact c.tk e s' (XE.of_call I2 (fun _ _ _ z => z) hq')
  | ok fl =>
    cases fl with
    | ret u =>
      obtain ⟨v, H', I3, rv, ev, q3⟩ := I2.after hq'
      subst ev
      exact ⟨rv, ⟨V.ref (s.heap.objs.size + 1), H', I3, rfl, q3⟩⟩
    | next => exact False.elim hq'
    | brk => exact False.elim hq'
    | cont => exact False.elim hq'
end
end CW

namespace CW
open PySem PySem.Spec PyProof.Rows L2
/-! ## 7c. Own classes: operators by methods of their own -/
section
variable {X : Cx} {m : Cm} {W : WX}
/-- an instance stands at a -/
theorem inst_at {pins : List (Addr × Obj)} {σ : L2.St} {H : Hp} {s : Shared} {a C dx : Addr} {fs : List (Str × V)} (I : Inv X pins σ H s) (ea : H a = some (.ins C dx fs)) : ∃ od, PySem.W.InstAt s.heap a (PySem.W.instObj C dx) C (some od) := by
  obtain ⟨mA, O, _⟩ := ins_get I.hok ea
  obtain ⟨od, J, _⟩ := O.look
  exact ⟨od, J⟩
/-- an own def as it is found by its class -/
structure OwnF (X : Cx) (C : Addr) (nm : Str) (n : Nat) (ks : List Str) (sp : Sp) (ar : List Ar) (f : Addr) (mi : MI) : Prop where
  find : PySem.W.findIn X.K (.ref C) nm = some (some (.ref f))
  fn : PySem.W.isFn X.K (.ref f) = true
  kp : PySem.W.keepIn X.K (.ref f) = true
  fnI : PySem.W.fnIn X.K f = true
  ok : MiOk X f mi
  spe : mi.sp = sp
  shp : (n, ks, ar) ∈ mi.sh
theorem own_of (c : Cnd X m W) {C : Addr} {nm : Str} {n : Nat} {ks : List Str} {sp : Sp} {ar : List Ar} (h : (C, sp, ar) ∈ msOf m.cl nm n ks) : ∃ f mi ci, ci ∈ m.cl ∧ ci.C = C ∧ OwnF X C nm n ks sp ar f mi := by
  obtain ⟨ci, hci, rfl, mi, hmi, rfl, hsh⟩ := ms_mem h
  obtain ⟨f, hM, hfn, M⟩ := (c.cl ci hci).ms _ hmi
  exact ⟨f, mi, ci, hci, rfl, hM.at_, hM.fn, hM.kp, hfn, M, rfl, hsh⟩
/-- its run -/
theorem own_run (c : Cnd X m W) {C : Addr} {nm : Str} {n : Nat} {ks : List Str} {sp : Sp} {ar : List Ar} {f : Addr} {mi : MI} (O : OwnF X C nm n ks sp ar f mi) {pins : List (Addr × Obj)} {σ : L2.St} {H : Hp} {s : Shared} {Q : VK} {us ws : List Value} {vs zs : List V} (I : Inv X pins σ H s)
    (rv : Vals vs us) (rz : Vals zs ws) (h1 : us.length = n) (h2 : ws.length = ks.length) (h : sp (arr ar vs zs) H Q fun cls d H' => W cls d σ H') : wpAny (model X.prog X.w) X.A (call (.ref f) us (ks.zip ws)) (EP X pins σ Q) X.xe s :=
  call_own c O.ok O.shp I rv rz h1 h2 (by rw [O.spe]; exact h)
theorem own_code (c : Cnd X m W) {C : Addr} {nm : Str} {n : Nat} {ks : List Str} {sp : Sp} {ar : List Ar} {f : Addr} {mi : MI} (O : OwnF X C nm n ks sp ar f mi) {pins : List (Addr × Obj)} {σ : L2.St} {H : Hp} {s : Shared} {Q : VK} {us ws : List Value} {vs zs : List V} (I : Inv X pins σ H s)
    (rv : Vals vs us) (rz : Vals zs ws) (h1 : us.length = n) (h2 : ws.length = ks.length) (h : sp (arr ar vs zs) H Q fun cls d H' => W cls d σ H') :
    codeAny (model X.prog X.w) X.A (.call (.ref f) ⟨us, ks.zip ws⟩) (fun r s' => match r with | .ok (.ret v) => EP X pins σ Q v s' | .ok _ => False | .error e => X.xe e s') s := by
  obtain ⟨fd, k, F, hr, hsh⟩ := O.ok
  refine codeAny_mono (run_at (A := X.A) (us := us) (ws := ws) (vs := vs) (zs := zs) (Q := Q) (R := fun cls d H' => W cls d σ H') F (hsh _ O.shp) (hr.mono (Nat.le_succ _)) c.gd I I.env0.frames rv rz h1 h2 (by rw [O.spe]; exact h)) fun r s' hq => ?_
  cases r with
  | error x => exact c.tk x s' (XE.of_call I (fun _ _ _ z => z) hq)
  | ok fl =>
    cases fl with
    | ret u => exact I.after hq
    | next => exact False.elim hq
    | brk => exact False.elim hq
    | cont => exact False.elim hq
/-- .. nothing raised -/
theorem own_runF (c : Cnd X m W) {C : Addr} {nm : Str} {n : Nat} {sp : Sp} {ar : List Ar} {f : Addr} {mi : MI} (O : OwnF X C nm n [] sp ar f mi) {A : Around} (hA : A = X.A ∨ A = X.A.in1) {pins : List (Addr × Obj)} {σ : L2.St} {H : Hp} {s : Shared} {Q : VK} {us : List Value} {vs : List V} (I : Inv X pins σ H s)
    (rv : Vals vs us) (h1 : us.length = n) (h : sp (arr ar vs []) H Q fun _ _ _ => False) : wpAny (model X.prog X.w) A (call (.ref f) us) (EP X pins σ Q) X.xe s := by
  obtain ⟨fd, k, F, hr, hsh⟩ := O.ok
  have hr' : Room k A := by
    rcases hA with rfl | rfl
    · exact hr.mono (Nat.le_succ _)
    · exact hr.in1
  have hg : A.guards = some [] := by
    rcases hA with rfl | rfl
    · exact c.gd
    · exact in1_guards c.gd
  have hf : A.frames = some X.stack := by
    rcases hA with rfl | rfl
    · exact I.env0.frames
    · exact I.env0.in1.frames
  refine wpAny_call (codeAny_mono (run_at (A := A) (us := us) (ws := []) (vs := vs) (zs := []) (Q := Q) (R := fun _ _ _ => False) F (hsh _ O.shp) hr' hg I hf rv .nil h1 rfl (by rw [O.spe]; exact h)) fun r s' hq => ?_)
  cases r with
  | error er =>
    obtain ⟨_, _, _, _, _, _, _, _, _, _, _, _, no⟩ := hq
    exact no.elim
  | ok fl =>
    cases fl with
    | ret u => exact I.after hq
    | next => exact False.elim hq
    | brk => exact False.elim hq
    | cont => exact False.elim hq
/-- .. inside a built-in -/
theorem own_run1 (c : Cnd X m W) {C : Addr} {nm : Str} {n : Nat} {sp : Sp} {ar : List Ar} {f : Addr} {mi : MI} (O : OwnF X C nm n [] sp ar f mi) {pins : List (Addr × Obj)} {σ : L2.St} {H : Hp} {s : Shared} {Q : VK} {us : List Value} {vs : List V} (I : Inv X pins σ H s)
    (rv : Vals vs us) (h1 : us.length = n) (h : sp (arr ar vs []) H Q fun cls d H' => W cls d σ H') : wpAny (model X.prog X.w) X.A.in1 (call (.ref f) us) (EP X pins σ Q) X.xe s := by
  obtain ⟨fd, k, F, hr, hsh⟩ := O.ok
  refine wpAny_call (codeAny_mono (run_at (A := X.A.in1) (us := us) (ws := []) (vs := vs) (zs := []) (Q := Q) (R := fun cls d H' => W cls d σ H') F (hsh _ O.shp) hr.in1 (in1_guards c.gd) I I.env0.in1.frames rv .nil h1 rfl (by rw [O.spe]; exact h)) fun r s' hq => ?_)
  cases r with
  | error x => exact c.tk x s' (XE.of_call I (fun _ _ _ z => z) hq)
  | ok fl =>
    cases fl with
    | ret u => exact I.after hq
    | next => exact False.elim hq
    | brk => exact False.elim hq
    | cont => exact False.elim hq
/-- o(..) -/
theorem callWith_inst {M : Model} {A : Around} {E : Value → Shared → Prop} {s : Shared} {pos : Pos} {x : Addr} {Q : Value → Shared → Prop} {args : List (Bool × Sem Value)} {keywords : List (Option Str × Sem Value)} (hplain : (args.any (·.1) || keywords.any (·.1.isNone)) = false)
    (h : wpAny M A (evalArgs (.ref x) true args keywords) (fun a s₁ => (∃ ox, s₁.heap.get? x = some ox ∧ ox.data = .plain) ∧ wpAny M A (call (.ref x) a.pos a.kw) Q E s₁) E s) : wpAny M A (callWith pos (.ref x) [] args keywords) Q E s := by
  unfold callWith
  refine wpAny_bind (wpAny_holding (wpAny_mono h (fun a s₁ h₁ => wpAny_bind (wpAny_standAt ?_)) fun _ _ y => y))
  obtain ⟨⟨ox, hx, hd⟩, h₁⟩ := h₁
  have L : PySem.W.Looks M s₁.heap (keeperOf (.ref x)) .caller := by
    refine (PySem.W.Looks.ld (part := none) hx).andThen ?_
    simp only [hd]
    exact .now
  simp only [hplain]
  refine wpAny_bind (L.here ?_)
  have tail : ∀ {t : Sem Value}, wpAny M A t Q E s₁ → wpAny M A (t >>= fun r => holding [r] point >>= fun _ => pure r) Q E s₁ :=
    fun ht => wpAny_bind (wpAny_mono ht (fun r s₂ hr => wpAny_bind (wpAny_holding (wpAny_point (wpAny_pure hr)))) fun _ _ y => y)
  exact tail (wpAny_operateT h₁)
theorem call_arm {f : Expr} {as : List Expr} {ks : List Keyword} {pos : Pos} {env : Env} (h : notAttr f = true) : eval (.Call f as ks pos) env = (do callWith pos (← eval f env) [] (backTo pos (starEach as env)) (backToKw pos (keywordEach ks env))) := by
  cases f <;> first | rfl | cases h
theorem pe_ocall (c : Cnd X m W) {f : Expr} {pos : Pos} {as : List Expr} {ks : List Keyword} {to : TE} {as' ks' : E} (ho : PE X f to) (hf : notAttr f = true)
    (ha : PAn X as (wA X.K W as') ∧ as.all noStar = true ∧ (as = [] → as' = .nil)) (hk : PKn X ks (wA X.K W ks') ∧ (∀ pos, (backToKw pos (keywordEach ks X.env)).all (·.1.isSome) = true) ∧ (∀ pos, (backToKw pos (keywordEach ks X.env)).filterMap (·.1) = kwNames ks) ∧ (∀ pos, (backToKw pos (keywordEach ks X.env)).any (·.1.isNone) = false) ∧ (kwNames ks).length = ks.length) :
    PE X (.Call f as ks pos) (fun σ H Q => to σ H fun x H1 => rCallO (msOf m.cl "__call__" (as.length + 1) (kwNames ks)) x H1 fun a C sp ar => wA X.K W as' σ H1 fun vs H2 => wA X.K W ks' σ H2 fun zs H3 => (∃ dx fs, H3 a = some (.ins C dx fs)) ∧ sp (arr ar (x :: vs) zs) H3 Q fun cls d H' => W cls d σ H') := by
  obtain ⟨hk1, hk2, hk3, hk4, hk5⟩ := hk
  refine ⟨fun pins s σ H Q I h => ?_⟩
  rw [call_arm hf]
  refine wpAny_bind (thn (ho.run pins s σ H _ I h) fun u s1 ⟨x, H1, I1, rx, a, C, dx, fs, sp, ar, ex, ea, hopt, q⟩ => ?_)
  subst ex
  obtain rfl : u = Value.ref a := rx
  obtain ⟨g, mi, ci, hci, hC, O⟩ := own_of c hopt
  have fin : ∀ (us : List Value) (s2 : Shared), (us.length = as.length ∧ AP X pins σ (fun vs H2 => wA X.K W ks' σ H2 fun zs H3 => (∃ dx fs, H3 a = some (.ins C dx fs)) ∧ sp (arr ar (.ref a :: vs) zs) H3 Q fun cls d H' => W cls d σ H') us s2) →
      wpAny (model X.prog X.w) X.A (evalAll ((backToKw pos (keywordEach ks X.env)).map (·.2))) (fun ws s3 => (∃ ox, s3.heap.get? a = some ox ∧ ox.data = .plain) ∧ wpAny (model X.prog X.w) X.A (call (.ref a) us (((backToKw pos (keywordEach ks X.env)).filterMap (·.1)).zip ws)) (EP X pins σ Q) X.xe s3) X.xe s2 := by
    rintro us s2 ⟨hl2, vs, H2, I2, rv, q2⟩
    refine thn (hk1.run pos pins s2 σ H2 _ I2 q2) fun ws s3 ⟨hl3, zs, H3, I3, rz, ⟨dx3, fs3, ea3⟩, q3⟩ => ?_
    obtain ⟨od, J⟩ := inst_at I3 ea3
    refine ⟨⟨_, J.at_, rfl⟩, ?_⟩
    rw [hk3]
    refine wpAny_call (PySem.W.kco_code I3.kIn J rfl O.find O.fn O.fnI ?_)
    exact own_code (vs := .ref a :: vs) (us := .ref a :: us) c O I3 (.cons rfl rv) rz (by simp [hl2]) (by rw [hl3, hk5]) q3
  cases as with
  | nil =>
    have e0 := ha.2.2 rfl
    subst e0
    refine callWith_inst (by show (false || _) = false; rw [hk4]; rfl) (evalArgs_kw2_nil (hk2 pos) ?_)
    exact fin [] s1 ⟨rfl, [], H1, I1, .nil, q⟩
  | cons e es =>
    have hall := ha.2.1
    rw [List.all_cons, Bool.and_eq_true] at hall
    exact callWith_inst (by rw [star_any ha.2.1, hk4]; rfl) (evalArgs_kw2 (hk2 pos) (thn (ha.1.run pos pins s1 σ H1 _ I1 q) fin) (star_cons hall.1))
end
end CW

namespace CW
open PySem PySem.Spec PyProof.Rows L2
section
variable {X : Cx} {m : Cm} {W : WX}
/-- x in y, x not in y -/
theorem run_inO (c : Cnd X m W) (neg : Bool) {op : CmpOp} (hop : op = if neg then .NotIn else .In) {pins : List (Addr × Obj)} {σ : L2.St} {H : Hp} {s : Shared} {Q : VK} {x y : V} {v u : Value} (I : Inv X pins σ H s) (rx : RelV x v) (ry : RelV y u)
    (h : rOwnF (msOf m.cl "__contains__" 2 []) y [x] H fun r H' => ∃ k, r = .bl k ∧ Q (.bl (if neg then !k else k)) H') : wpAny (model X.prog X.w) X.A (compareOp op v u) (EP X pins σ Q) X.xe s := by
  obtain ⟨a, C, dx, fs, sp, ar, rfl, ea, hopt, q⟩ := h
  obtain rfl : u = Value.ref a := ry
  obtain ⟨f, mi, ci, hci, hC, O⟩ := own_of c hopt
  obtain ⟨od, J⟩ := inst_at I ea
  obtain ⟨mm, fr⟩ := I.fr
  have run := own_runF (vs := [.ref a, x]) (us := [.ref a, v]) c O (.inl rfl) I (.cons rfl (.cons rx .nil)) rfl q
  cases neg with
  | false =>
    subst hop
    refine PySem.W.in_K fr I.ok.mod.kin J O.find O.fn (thn run fun r s' ⟨z, H', I', rz, k, ez, q'⟩ => ?_)
    subst ez
    obtain rfl : r = Value.bool k := rz
    exact wpAny_truthy_bool ⟨.bl k, H', I', rfl, q'⟩
  | true =>
    subst hop
    refine PySem.W.notIn_K fr I.ok.mod.kin J O.find O.fn (thn run fun r s' ⟨z, H', I', rz, k, ez, q'⟩ => ?_)
    subst ez
    obtain rfl : r = Value.bool k := rz
    exact wpAny_truthy_bool ⟨.bl (!k), H', I', rfl, q'⟩
theorem cmpback {P : Value → Shared → Prop} {z : V} {v : Value} {s' : Shared} (r : RelV z v) (h : P v s') : PySem.W.CmpBack P v s' := by
  cases z with
  | non => cases (show v = Value.none from r); exact h
  | bl b => cases (show v = Value.bool b from r); exact h
  | int i => obtain ⟨t, rfl⟩ := (show ∃ t, v = Value.int i t from r); exact h
  | str x => obtain ⟨t, rfl⟩ := (show ∃ t, v = Value.str x t from r); exact h
  | byt b => obtain ⟨t, rfl⟩ := (show ∃ t, v = Value.bytes b t from r); exact h
  | flt b => obtain ⟨t, rfl⟩ := (show ∃ t, v = Value.float b t from r); exact h
  | ref a => cases (show v = Value.ref a from r); exact h
  | ty n => cases (show v = Value.type n from r); exact h
theorem cmpNm_ok {op : CmpOp} {nm : Str} (h : cmpNm op = some nm) : (cmpInfo op).2.1 = nm ∧ ∀ a b : Value, compareOp op a b = richCompare op a b := by
  cases op <;> first | (cases h; exact ⟨rfl, fun _ _ => rfl⟩) | cases h
/-- x == y, x <= y .. by x's own method -/
theorem run_cmpO (c : Cnd X m W) {op : CmpOp} {nm : Str} (hop : cmpNm op = some nm) {pins : List (Addr × Obj)} {σ : L2.St} {H : Hp} {s : Shared} {Q : VK} {x y : V} {v u : Value} (I : Inv X pins σ H s) (rx : RelV x v) (ry : RelV y u)
    (h : ∃ a C dx fs sp ar, x = .ref a ∧ H a = some (.ins C dx fs) ∧ (C, sp, ar) ∈ msOf m.cl nm 2 [] ∧ notSub X.K C H y ∧ sp (arr ar [x, y] []) H Q fun _ _ _ => False) : wpAny (model X.prog X.w) X.A (compareOp op v u) (EP X pins σ Q) X.xe s := by
  obtain ⟨a, C, dx, fs, sp, ar, rfl, ea, hopt, ⟨t, ty, hn⟩, q⟩ := h
  obtain rfl : v = Value.ref a := rx
  obtain ⟨f, mi, ci, hci, hC, O⟩ := own_of c hopt
  obtain ⟨od, J⟩ := inst_at I ea
  obtain ⟨mm, fr⟩ := I.fr
  obtain ⟨e1, e2⟩ := cmpNm_ok hop
  have run := own_runF (vs := [.ref a, y]) (us := [.ref a, u]) c O (.inl rfl) I (.cons rfl (.cons ry .nil)) rfl q
  obtain ⟨P, Z, z, _⟩ := kit_of I ry ty
  rw [e2]
  refine PySem.W.cmp_K (by have := c.un; omega) fr I.ok.mod.kin J (Z.ty _ _ I.kIn z) hn (by rw [e1]; exact O.find) O.fn (thn run fun r s' ⟨zv, H', I', rz, q'⟩ => ?_)
  exact cmpback (P := EP X pins σ Q) rz ⟨zv, H', I', rz, q'⟩
/-- x op y by x's own method, y of a built-in kind that has no such number slot -/
theorem binop_L {prog : Program} {w : World} {A : Around} {E : Value → Shared → Prop} {s : Shared} {K : PySem.W.Frag} {x C L f : Addr} {h₀ : Heap} {mm : Str → Option Value} {ox : Obj} {od : Option Obj} {op : Operator} {b : Value} {T : String} {Q : Value → Shared → Prop} (F : Fr h₀ L s.heap mm) (X₀ : K.In h₀) (I : PySem.W.InstAt s.heap x ox C od)
    (hb : PySem.W.Looks (model prog w) s.heap (typeOf b) (.type T)) (hfill : fillsNumberSlot (.type T) op.info.2 = pure false) (hc : PySem.W.selfFirst K C = true)
    (hs : PySem.W.findIn K (.ref C) (PySem.dunder op.info.2) = some (some (.ref f))) (hf : PySem.W.isFn K (.ref f) = true)
    (h : wpAny (model prog w) A (call (.ref f) [.ref x, b]) (PySem.W.CmpBack Q) E s) : wpAny (model prog w) A (binaryOp op (.ref x) b) Q E s := by
  have X := X₀.keeps F.keep
  obtain ⟨cd, hcd, hm⟩ := PySem.W.any_some hc
  obtain ⟨rest, hm⟩ : ∃ rest, cd.mro = .ref C :: rest := by
    cases q : cd.mro with
    | nil => rw [q] at hm; cases hm
    | cons a r => rw [q] at hm; exact ⟨r, by rw [List.head?_cons] at hm; cases (beq_iff_eq.mp hm); rfl⟩
  unfold binaryOp
  refine wpAny_holding (wpAny_bind ?_)
  unfold binaryOp1
  refine wpAny_bind (I.type.here (wpAny_bind (hb.here (wpAny_bind ((PySem.W.fills_K X hcd hm hs).here ?_)))))
  rw [if_neg (by simp)]
  refine wpAny_bind (wpAny_of_eq hfill ?_)
  simp only [Bool.and_false, Bool.false_eq_true, if_false, Bool.false_and, if_true]
  refine wpAny_bind (wpAny_pure ?_)
  simp only [Bool.false_eq_true, if_false]
  refine wpAny_bind (m := tryMethod (.ref x) _ b) ?_
  unfold tryMethod
  refine wpAny_bind (PySem.W.special_fn X I hs (beq_iff_eq.mp hf) (wpAny_mono h (fun v s' hv => ?_) fun _ _ e => e))
  cases v <;> first | exact hv.elim | exact wpAny_pure (wpAny_pure (wpAny_pure hv))
theorem nofill_str_sub : fillsNumberSlot (.type "str") "sub" = pure false := by
  have h1 : typeLookup (.type "str") (dunder "sub") = pure none := by rw [typeLookup_type, builtinLookup_eq_fast]; kernel_rfl
  have h2 : typeLookup (.type "str") (dunderR "sub") = pure none := by rw [typeLookup_type, builtinLookup_eq_fast]; kernel_rfl
  unfold fillsNumberSlot
  simp only [h1, h2]
  rfl
theorem nofill_str_add : fillsNumberSlot (.type "str") "add" = pure false := PyProof.Rows.noFill_str_add
theorem nofill_tuple_add : fillsNumberSlot (.type "tuple") "add" = pure false := noFill_tuple_add
/-- y + x by x's own reflected method -/
theorem binop_R {prog : Program} {w : World} {A : Around} {E : Value → Shared → Prop} {s : Shared} {K : PySem.W.Frag} {x C L f f0 : Addr} {h₀ : Heap} {mm : Str → Option Value} {ox : Obj} {od : Option Obj} {op : Operator} {b : Value} {T : String} {Q : Value → Shared → Prop} (F : Fr h₀ L s.heap mm) (X₀ : K.In h₀) (I : PySem.W.InstAt s.heap x ox C od)
    (hb : PySem.W.Looks (model prog w) s.heap (typeOf b) (.type T)) (hfill : fillsNumberSlot (.type T) op.info.2 = pure false) (hc : PySem.W.selfFirst K C = true)
    (hs0 : PySem.W.findIn K (.ref C) (PySem.dunder op.info.2) = some (some (.ref f0))) (hs : PySem.W.findIn K (.ref C) (PySem.dunderR op.info.2) = some (some (.ref f))) (hf : PySem.W.isFn K (.ref f) = true)
    (h : wpAny (model prog w) A (call (.ref f) [.ref x, b]) (PySem.W.CmpBack Q) E s) : wpAny (model prog w) A (binaryOp op b (.ref x)) Q E s := by
  have X := X₀.keeps F.keep
  obtain ⟨cd, hcd, hm⟩ := PySem.W.any_some hc
  obtain ⟨rest, hm⟩ : ∃ rest, cd.mro = .ref C :: rest := by
    cases q : cd.mro with
    | nil => rw [q] at hm; cases hm
    | cons a r => rw [q] at hm; exact ⟨r, by rw [List.head?_cons] at hm; cases (beq_iff_eq.mp hm); rfl⟩
  unfold binaryOp
  refine wpAny_holding (wpAny_bind ?_)
  unfold binaryOp1
  refine wpAny_bind (hb.here (wpAny_bind (I.type.here ?_)))
  refine wpAny_bind (wpAny_of_eq hfill ?_)
  rw [if_neg (by simp)]
  refine wpAny_bind ((PySem.W.fills_K X hcd hm hs0).here ?_)
  simp only [Bool.and_false, Bool.false_eq_true, if_false, Bool.false_and, if_true, Bool.not_false, Bool.and_true]
  refine wpAny_bind (wpAny_pure ?_)
  simp only [Bool.false_eq_true, if_false]
  refine wpAny_bind (m := tryMethod (.ref x) _ b) ?_
  unfold tryMethod
  refine wpAny_bind (PySem.W.special_fn X I hs (beq_iff_eq.mp hf) (wpAny_mono h (fun v s' hv => ?_) fun _ _ e => e))
  cases v <;> first | exact hv.elim | exact wpAny_pure (wpAny_bind (wpAny_rule (wpAny_pure (wpAny_pure hv))))
theorem tyx_sqt {K : PySem.W.Frag} {H : Hp} {p : Addr} {xs : List V} (h : SqT K H p xs) : TyX K H (.ref p) (.type "tuple") := by
  rcases h with (h | ⟨o, h⟩) | ⟨o, its, n, h, c, _⟩
  · exact .base (.tup h)
  · exact .fTuple h
  · exact .kTuple h c
/-- x op y -/
theorem run_binO (c : Cnd X m W) {op : Operator} {pins : List (Addr × Obj)} {σ : L2.St} {H : Hp} {s : Shared} {Q : VK} {x y : V} {v u : Value} (I : Inv X pins σ H s) (rx : RelV x v) (ry : RelV y u)
    (h : ∃ a C dx fs sp ar, x = .ref a ∧ H a = some (.ins C dx fs) ∧ (C, sp, ar) ∈ msOf m.cl (PySem.dunder op.info.2) 2 [] ∧ besideO X.K C op y H ∧ sp (arr ar [x, y] []) H Q fun cls d H' => W cls d σ H') : wpAny (model X.prog X.w) X.A (binaryOp op v u) (EP X pins σ Q) X.xe s := by
  obtain ⟨a, C, dx, fs, sp, ar, rfl, ea, hopt, hy, q⟩ := h
  obtain rfl : v = Value.ref a := rx
  obtain ⟨f, mi, ci, hci, rfl, O⟩ := own_of c hopt
  obtain ⟨od, J⟩ := inst_at I ea
  obtain ⟨mm, fr⟩ := I.fr
  have sf := (c.cl ci hci).sf
  have run := own_run (ws := []) (zs := []) (vs := [.ref a, y]) (us := [.ref a, u]) c O I (.cons rfl (.cons ry .nil)) .nil rfl rfl q
  have run2 : wpAny (model X.prog X.w) X.A (call (.ref f) [.ref a, u]) (PySem.W.CmpBack (EP X pins σ Q)) X.xe s := thn run fun r s' ⟨zv, H', I', rz, q'⟩ => cmpback (P := EP X pins σ Q) rz ⟨zv, H', I', rz, q'⟩
  rcases hy with ⟨z, rfl, hop⟩ | ⟨b, xs, rfl, hs, rfl⟩ | ⟨b, dx2, fs2, rfl, eb⟩
  · obtain ⟨P, Z, z', _⟩ := kit_of (t := .type "str") I ry (.base (.str z))
    rcases hop with rfl | rfl
    · exact binop_L (T := "str") fr I.ok.mod.kin J (Z.ty _ _ I.kIn z') nofill_str_sub sf O.find O.fn run2
    · exact binop_L (T := "str") fr I.ok.mod.kin J (Z.ty _ _ I.kIn z') nofill_str_add sf O.find O.fn run2
  · obtain ⟨P, Z, z', _⟩ := kit_of I ry (tyx_sqt hs)
    exact binop_L (T := "tuple") fr I.ok.mod.kin J (Z.ty _ _ I.kIn z') nofill_tuple_add sf O.find O.fn run2
  · obtain rfl : u = Value.ref b := ry
    obtain ⟨od2, J2⟩ := inst_at I eb
    exact PySem.W.binop_K fr I.ok.mod.kin J J2.type sf O.find O.fn run2
/-- y + x, y a tuple -/
theorem run_rbinO (c : Cnd X m W) {pins : List (Addr × Obj)} {σ : L2.St} {H : Hp} {s : Shared} {Q : VK} {x y : V} {v u : Value} (I : Inv X pins σ H s) (rx : RelV x v) (ry : RelV y u)
    (h : ∃ a C dx fs sp ar b xs sp0 ar0, y = .ref a ∧ H a = some (.ins C dx fs) ∧ (C, sp, ar) ∈ msOf m.cl "__radd__" 2 [] ∧ (C, sp0, ar0) ∈ msOf m.cl "__add__" 2 [] ∧ x = .ref b ∧ SqT X.K H b xs ∧ sp (arr ar [y, x] []) H Q fun cls d H' => W cls d σ H') : wpAny (model X.prog X.w) X.A (binaryOp .Add v u) (EP X pins σ Q) X.xe s := by
  obtain ⟨a, C, dx, fs, sp, ar, b, xs, sp0, ar0, rfl, ea, hopt, hopt0, rfl, hs, q⟩ := h
  obtain rfl : u = Value.ref a := ry
  obtain ⟨f, mi, ci, hci, rfl, O⟩ := own_of c hopt
  obtain ⟨f0, mi0, ci0, hci0, hC0, O0⟩ := own_of c hopt0
  obtain ⟨od, J⟩ := inst_at I ea
  obtain ⟨mm, fr⟩ := I.fr
  have sf := (c.cl ci hci).sf
  have run := own_run (ws := []) (zs := []) (vs := [.ref a, .ref b]) (us := [.ref a, v]) c O I (.cons rfl (.cons rx .nil)) .nil rfl rfl q
  have run2 : wpAny (model X.prog X.w) X.A (call (.ref f) [.ref a, v]) (PySem.W.CmpBack (EP X pins σ Q)) X.xe s := thn run fun r s' ⟨zv, H', I', rz, q'⟩ => cmpback (P := EP X pins σ Q) rz ⟨zv, H', I', rz, q'⟩
  obtain ⟨P, Z, z', _⟩ := kit_of I rx (tyx_sqt hs)
  exact binop_R (op := .Add) (T := "tuple") fr I.ok.mod.kin J (Z.ty _ _ I.kIn z') nofill_tuple_add sf O0.find O.find O.fn run2
/-- x[y] -/
theorem run_subO (c : Cnd X m W) {value slice : Expr} (hsl : notSlice slice = true) {pins : List (Addr × Obj)} {σ : L2.St} {H : Hp} {s : Shared} {Q : VK} {x y : V} {v u : Value} (I : Inv X pins σ H s) (rx : RelV x v) (ry : RelV y u)
    (h : rOwn (msOf m.cl "__getitem__" 2 []) x [y] σ W H Q) : wpAny (model X.prog X.w) X.A (subscriptTail value slice v u) (EP X pins σ Q) X.xe s := by
  obtain ⟨a, C, dx, fs, sp, ar, rfl, ea, hopt, q⟩ := h
  obtain rfl : v = Value.ref a := rx
  obtain ⟨f, mi, ci, hci, rfl, O⟩ := own_of c hopt
  obtain ⟨od, J⟩ := inst_at I ea
  obtain ⟨mm, fr⟩ := I.fr
  have run := own_run1 (vs := [.ref a, y]) (us := [.ref a, u]) c O I (.cons rfl (.cons ry .nil)) rfl q
  exact PySem.W.sub_K fr I.ok.mod.kin J O.find O.fnI O.fn run (by cases slice <;> first | rfl | cases hsl)
/-- len(x) -/
theorem run_lenO (c : Cnd X m W) {pins : List (Addr × Obj)} {σ : L2.St} {H : Hp} {s : Shared} {Q : VK} {x : V} {v : Value} (I : Inv X pins σ H s) (rx : RelV x v)
    (h : rOwnF (msOf m.cl "__len__" 1 []) x [] H fun r H' => ∃ n : Nat, r = .int n ∧ n < 1000000 ∧ Q (.int n) H') : wpAny (model X.prog X.w) X.A (call (.builtin "len") [v]) (EP X pins σ Q) X.xe s := by
  obtain ⟨a, C, dx, fs, sp, ar, rfl, ea, hopt, q⟩ := h
  obtain rfl : v = Value.ref a := rx
  obtain ⟨f, mi, ci, hci, rfl, O⟩ := own_of c hopt
  obtain ⟨od, J⟩ := inst_at I ea
  obtain ⟨mm, fr⟩ := I.fr
  have run := own_runF (vs := [.ref a]) (us := [.ref a]) c O (.inr rfl) I (.cons rfl .nil) rfl q
  refine PySem.W.len_K fr I.ok.mod.kin J O.find O.fn (thn run fun r s' ⟨zv, H', I', rz, n, ez, hn, q'⟩ => ?_)
  subst ez
  obtain ⟨t, rfl⟩ := rz
  exact ⟨⟨by omega, by omega⟩, .int n, H', I'.tok _, ⟨_, rfl⟩, q'⟩
/-- repr(x) -/
theorem run_reprO (c : Cnd X m W) {pins : List (Addr × Obj)} {σ : L2.St} {H : Hp} {s : Shared} {Q : VK} {x : V} {v : Value} (I : Inv X pins σ H s) (rx : RelV x v)
    (h : rOwnF (msOf m.cl "__repr__" 1 []) x [] H fun r H' => ∃ z, r = .str z ∧ Q (.str z) H') : wpAny (model X.prog X.w) X.A (call (.builtin "repr") [v]) (EP X pins σ Q) X.xe s := by
  obtain ⟨a, C, dx, fs, sp, ar, rfl, ea, hopt, q⟩ := h
  obtain rfl : v = Value.ref a := rx
  obtain ⟨f, mi, ci, hci, rfl, O⟩ := own_of c hopt
  obtain ⟨od, J⟩ := inst_at I ea
  obtain ⟨mm, fr⟩ := I.fr
  have run := own_runF (vs := [.ref a]) (us := [.ref a]) c O (.inr rfl) I (.cons rfl .nil) rfl q
  refine PySem.W.repr_K (by have := c.un; show X.A.units + 1 < cLine; omega) fr I.ok.mod.kin J O.find O.fn (thn run fun r s' ⟨zv, H', I', rz, z, ez, q'⟩ => ?_)
  subst ez
  obtain ⟨t, rfl⟩ := rz
  exact ⟨.str z, H', I', ⟨_, rfl⟩, q'⟩
end
end CW

namespace CW
open PySem PySem.Spec PyProof.Rows L2
section
variable {X : Cx} {m : Cm} {W : WX}
theorem mt_app : MtR X "list.append" (rMt X.K .append) := by
  intro pins s σ H x xs v us Q I rx rv h
  unfold rMt at h
  split at h <;> first | exact h.elim | (rename_i e; cases e; done) | skip
  obtain ⟨ys, h1, h2, h3⟩ := h
  exact mt_append pins s σ H _ _ v us Q I rx rv ⟨_, ys, _, rfl, rfl, h1, h2, h3⟩
theorem mt_joi : MtR X "str.join" (rMt X.K .join) := by
  intro pins s σ H x xs v us Q I rx rv h
  unfold rMt at h
  split at h <;> first | exact h.elim | (rename_i e; cases e; done) | skip
  obtain ⟨ys, h1, h2, h3⟩ := h
  exact mt_join pins s σ H _ _ v us Q I rx rv ⟨_, _, ys, rfl, rfl, h1, h2, h3⟩
theorem mt_sta : MtR X "str.startswith" (rMt X.K .startswith) := by
  intro pins s σ H x xs v us Q I rx rv h
  unfold rMt at h
  split at h <;> first | exact h.elim | (rename_i e; cases e; done) | skip
  exact mt_startswith pins s σ H _ _ v us Q I rx rv ⟨_, _, rfl, rfl, h⟩
theorem mt_ext : MtR X "list.extend" (rMt X.K .extend) := by
  intro pins s σ H x xs v us Q I rx rv h
  unfold rMt at h
  split at h <;> first | exact h.elim | (rename_i e; cases e; done) | skip
  obtain ⟨a, b, h1, h2, h3, h4⟩ := h
  exact mt_extend pins s σ H _ _ v us Q I rx rv ⟨_, _, a, b, rfl, rfl, h1, h2, h3, h4⟩
theorem mt_popM : MtR X "list.pop" (rMt X.K .pop) := by
  intro pins s σ H x xs v us Q I rx rv h
  unfold rMt at h
  split at h <;> first | exact h.elim | (rename_i e; cases e; done) | skip
  · obtain ⟨a, y, h1, h2, h3⟩ := h
    exact mt_pop pins s σ H _ _ v us Q I rx rv ⟨_, a, y, rfl, rfl, h1, h2, h3⟩
  · obtain ⟨a, k, y, h1, h2, h3, h4, h5, h6⟩ := h
    exact mt_popAt pins s σ H _ _ v us Q I rx rv ⟨_, a, _, k, y, rfl, rfl, h1, h2, h3, h4, h5, h6⟩
theorem mt_clr : MtR X "list.clear" (rMt X.K .clear) := by
  intro pins s σ H x xs v us Q I rx rv h
  unfold rMt at h
  split at h <;> first | exact h.elim | (rename_i e; cases e; done) | skip
  obtain ⟨a, h1, h2⟩ := h
  exact mt_clear pins s σ H _ _ v us Q I rx rv ⟨_, a, rfl, rfl, h1, h2⟩
theorem ty_l {K : PySem.W.Frag} {H : Hp} {x : V} {t : Mt} (h : mtTy K t x H) (ht : t = .append ∨ t = .extend ∨ t = .pop ∨ t = .clear) : tyV K "list" x H := by
  rcases ht with rfl | rfl | rfl | rfl <;> (cases x with
    | ref l => obtain ⟨ys, h⟩ := h; exact .inl ⟨rfl, ys, SqL.of h⟩
    | _ => exact h.elim)
theorem ty_s {K : PySem.W.Frag} {H : Hp} {x : V} {t : Mt} (h : mtTy K t x H) (ht : t = .join ∨ t = .startswith) : tyV K "str" x H := by
  rcases ht with rfl | rfl <;> (cases x with
    | str z => rfl
    | _ => exact h.elim)
theorem pe_mtM {t : Mt} {nm : Str} {o e : Expr} {es : List Expr} {to : TE} {ta : TA} {apos cpos : Pos} (ht : mtOf nm = some t) (ho : PE X o to) (ha : PAn X (e :: es) ta) (hall : (e :: es).all noStar = true) (hs : notSuper o = true) (hline : (apos.endLine == cpos.line) = true) (hlen : (e :: es).length < 29) :
    PE X (.Call (.Attribute o nm apos) (e :: es) [] cpos) (fun σ H Q => to σ H fun x H1 => mtTy X.K t x H1 ∧ ta σ H1 fun xs H2 => rMt X.K t x xs H2 Q) := by
  unfold mtOf at ht
  split at ht
  · rename_i e1
    obtain rfl := Option.some.inj ht
    rw [e1]
    exact pe_bmM PySem.F.plainAttrs_list PySem.F.slot_list_append PySem.F.type_list_append mt_app (fun x H h => ty_l h (by simp)) ho ha hall hs hline hlen
  split at ht
  · rename_i e1
    obtain rfl := Option.some.inj ht
    rw [e1]
    exact pe_bmM PySem.F.plainAttrs_str PySem.F.slot_str_join PySem.F.type_str_join mt_joi (fun x H h => ty_s h (by simp)) ho ha hall hs hline hlen
  split at ht
  · rename_i e1
    obtain rfl := Option.some.inj ht
    rw [e1]
    exact pe_bmM PySem.F.plainAttrs_str PySem.F.slot_str_startswith PySem.F.type_str_startswith mt_sta (fun x H h => ty_s h (by simp)) ho ha hall hs hline hlen
  split at ht
  · rename_i e1
    obtain rfl := Option.some.inj ht
    rw [e1]
    exact pe_bmM PySem.F.plainAttrs_list PySem.F.slot_list_extend PySem.F.type_list_extend mt_ext (fun x H h => ty_l h (by simp)) ho ha hall hs hline hlen
  split at ht
  · rename_i e1
    obtain rfl := Option.some.inj ht
    rw [e1]
    exact pe_bmM PySem.F.plainAttrs_list PySem.F.slot_list_pop PySem.F.type_list_pop mt_popM (fun x H h => ty_l h (by simp)) ho ha hall hs hline hlen
  · cases ht
theorem pe_mt0M {t : Mt} {nm : Str} {o : Expr} {to : TE} {apos cpos : Pos} (ht : mt0Of nm = some t) (ho : PE X o to) (hs : notSuper o = true) (hline : (apos.endLine == cpos.line) = true) :
    PE X (.Call (.Attribute o nm apos) [] [] cpos) (fun σ H Q => to σ H fun x H1 => mtTy X.K t x H1 ∧ rMt X.K t x [] H1 Q) := by
  have go : ∀ {id : String}, PySem.Slot "list" nm id → typeOf (.builtin id) = pure (.type "method_descriptor") → MtR X id (rMt X.K t) → (t = .append ∨ t = .extend ∨ t = .pop ∨ t = .clear) → PE X (.Call (.Attribute o nm apos) [] [] cpos) (fun σ H Q => to σ H fun x H1 => mtTy X.K t x H1 ∧ rMt X.K t x [] H1 Q) := by
    intro id sl hy hm hk
    refine ⟨fun pins s σ H Q I h => ?_⟩
    refine wpAny_Call_method0_late (base_S hs) hline (thn (ho.run pins s σ H _ I h) fun v s1 ⟨x, H1, I1, r1, ty, q1⟩ => ?_)
    obtain ⟨h1, h2⟩ := tyV_is I1 r1 (ty_l ty hk)
    exact ⟨"list", id, PySem.F.plainAttrs_list, sl, hy, h1, h2, Calls.callWith_builtin rfl (PySem.evalArgs_none (hm pins s1 σ H1 x [] v [] Q I1 r1 .nil q1))⟩
  unfold mt0Of at ht
  split at ht
  · rename_i e1
    obtain rfl := Option.some.inj ht
    subst e1
    exact go PySem.F.slot_list_pop PySem.F.type_list_pop mt_popM (by simp)
  split at ht
  · rename_i e1
    obtain rfl := Option.some.inj ht
    subst e1
    exact go PySem.F.slot_list_clear PySem.F.type_list_clear mt_clr (by simp)
  · cases ht
/-- one argument -/
theorem pan_one {e : Expr} {t : TE} (h : PE X e t) (hs : noStar e = true) : PAn X [e] (fun σ H Q => t σ H fun x H1 => Q [x] H1) := by
  refine ⟨fun pos pins s σ H Q I hw => ?_⟩
  rw [star_cons hs]
  show wpAny _ _ (spliced ((false, eval e X.env) :: backTo pos (starEach [] X.env))) _ _ s
  exact Calls.spliced_cons (thn (h.run pins s σ H _ I hw) fun u s1 ⟨x, H1, I1, rx, q1⟩ => Calls.spliced_nil ⟨rfl, [x], H1, I1, .cons rx .nil, q1⟩)
theorem mt_joinD : MtR X "str.join" (fun x xs H Q => ∃ D acc, xs = [.ref D] ∧ H D = some (.lst acc) ∧ rMt X.K .join x [.ref D] H fun r H3 => H3 D = some (.lst acc) ∧ Q r (dropA H3 D)) := by
  intro pins s σ H x xs v us Q I rx rv h
  obtain ⟨D, acc, rfl, hD, q⟩ := h
  refine thn (mt_joi pins s σ H x [.ref D] v us _ I rx rv q) fun z s2 ⟨zv, H2, I2, rz, hD2, q2⟩ => ?_
  exact ⟨zv, dropA H2 D, Inv.drop I2 hD2, rz, q2⟩
theorem pe_joindM {o e : Expr} {to te : TE} {apos cpos : Pos} (ho : PE X o to) (he : PE X e te) (hst : noStar e = true) (hs : notSuper o = true) (hline : (apos.endLine == cpos.line) = true) :
    PE X (.Call (.Attribute o "join" apos) [e] [] cpos) (fun σ H Q => to σ H fun x H1 => (∃ a, x = .str a) ∧ te σ H1 fun y H2 => ∃ D acc, y = .ref D ∧ H2 D = some (.lst acc) ∧ rMt X.K .join x [.ref D] H2 fun r H3 => H3 D = some (.lst acc) ∧ Q r (dropA H3 D)) := by
  have z := pe_bmM (X := X) (ty := fun x _ => ∃ a, x = .str a) (apos := apos) (cpos := cpos) PySem.F.plainAttrs_str PySem.F.slot_str_join PySem.F.type_str_join (mt_joinD (X := X)) (fun x H ⟨a, e⟩ => by subst e; rfl) ho (pan_one he hst) (by rw [List.all_cons, hst]; rfl) hs hline (by show 1 < 29; decide)
  refine ⟨fun pins s σ H Q I h => ?_⟩
  -- the reading's one argument is the list of it
  have go := z
  refine wpAny_Call_method_late (base_S hs) ?_ hline rfl (thn (ho.run pins s σ H _ I h) fun v s1 ⟨x, H1, I1, r1, hy, q1⟩ => ?_)
  · rw [star_all (show [e].all noStar = true by rw [List.all_cons, hst]; rfl)]
    rfl
  · obtain ⟨a, rfl⟩ := hy
    obtain ⟨z1, z2⟩ := tyV_is I1 r1 (show tyV X.K "str" (.str a) H1 from rfl)
    refine ⟨"str", "str.join", PySem.F.plainAttrs_str, PySem.F.slot_str_join, PySem.F.type_str_join, z1, z2, ?_⟩
    rw [star_cons hst]
    refine Calls.callWith_builtin rfl (Calls.evalArgs_plain ?_)
    show wpAny _ _ (spliced ((false, eval e X.env) :: backTo cpos (starEach [] X.env))) _ _ s1
    refine Calls.spliced_cons (thn (he.run pins s1 σ H1 _ I1 q1) fun u s2 ⟨y, H2, I2, ry, D, acc, ey, hD, q2⟩ => Calls.spliced_nil ?_)
    subst ey
    exact mt_joinD pins s2 σ H2 (.str a) [.ref D] v [u] Q I2 r1 (.cons ry .nil) ⟨D, acc, rfl, hD, q2⟩
/-! ### isinstance -/
theorem ty_ld (c : Cnd X m W) {e : Expr} {t : Ty} (h : tyOf m e = some t) {pins : List (Addr × Obj)} {s : Shared} {σ : L2.St} {H : Hp} {Q : Value → Shared → Prop} (I : Inv X pins σ H s) (q : Q (.type t.nm) s) : wpAny (model X.prog X.w) X.A (eval e X.env) Q X.xe s ∧ noStar e = true := by
  unfold tyOf at h
  split at h
  · split at h
    · rename_i e1
      obtain rfl := Option.some.inj h
      obtain ⟨hg, hd, hn, hm, hv, _⟩ := c.get e1
      exact ⟨ld_blt I hg hm hv q hn hd, rfl⟩
    · cases h
  · cases h
theorem tys_ld (c : Cnd X m W) {pos : Pos} : ∀ {es : List Expr} {ts : List Ty}, tysOf m es = some ts → ∀ {pins : List (Addr × Obj)} {s : Shared} {σ : L2.St} {H : Hp} {Q : List Value → Shared → Prop}, Inv X pins σ H s → Q (ts.map fun t => .type t.nm) s →
    wpAny (model X.prog X.w) X.A (spliced (backTo pos (starEach es X.env))) Q X.xe s
  | [], ts, h, _, _, _, _, _, I, q => by
    obtain rfl := Option.some.inj h
    exact Calls.spliced_nil q
  | e :: es, ts, h, pins, s, σ, H, Q, I, q => by
    unfold tysOf at h
    split at h
    · rename_i t r e1 e2
      obtain rfl := Option.some.inj h
      have hn := (ty_ld c e1 (Q := fun _ _ => True) I trivial).2
      rw [star_cons hn]
      show wpAny _ _ (spliced ((false, eval e X.env) :: backTo pos (starEach es X.env))) _ _ s
      exact Calls.spliced_cons (ty_ld c e1 I (tys_ld c e2 I q)).1
    · cases h
theorem tys_len : ∀ {es : List Expr} {ts : List Ty}, tysOf m es = some ts → ts.length = es.length
  | [], ts, h => by
    obtain rfl := Option.some.inj h
    rfl
  | e :: es, ts, h => by
    unfold tysOf at h
    split at h
    · rename_i t r e1 e2
      obtain rfl := Option.some.inj h
      rw [List.length_cons, tys_len e2, List.length_cons]
    · cases h
theorem pe_isA1 (c : Cnd X m W) {x : Str} {a b : Expr} {t : Ty} {ta : TE} {p pos : Pos} (hx : m.get x = some .isi) (ha : PE X a ta) (hs : noStar a = true) (hb : tyOf m b = some t) : PE X (.Call (.Name x p) [a, b] [] pos) (fun σ H Q => ta σ H fun y H1 => rIsA X.K [t] y H1 Q) := by
  obtain ⟨hg, hd, hn, hm, hv⟩ := c.get hx
  refine ⟨fun pins s σ H Q I hw => ?_⟩
  have hnb := (ty_ld c hb (Q := fun _ _ => True) I trivial).2
  refine wpAny_Call_Name_kw (ld_blt I hg hm hv (PyProof.Rows.callWith_builtin1 ?_ (star_cons hs) (star_any (by rw [List.all_cons, hnb]; rfl))) hn hd)
  rw [star_cons hs, star_cons hnb]
  show wpAny _ _ (spliced ((false, eval a X.env) :: (false, eval b X.env) :: backTo pos (starEach [] X.env))) _ _ s
  refine Calls.spliced_cons (thn (ha.run pins s σ H _ I hw) fun u s1 ⟨y, H1, I1, ry, q1⟩ => Calls.spliced_cons (ty_ld c hb I1 (Calls.spliced_nil ?_)).1)
  obtain ⟨T, f, ty, hk, q⟩ := isA_of q1
  obtain ⟨P, Z, z, hy⟩ := kit_of I1 ry ty
  refine PySem.W.kia_one Z I1.kIn z (hk t) hy fun tk => ⟨.bl (f t), H1, I1.tok tk, rfl, ?_⟩
  have e : [t].any f = f t := by simp
  rw [e] at q
  exact q
theorem pe_isAT (c : Cnd X m W) {x : Str} {a : Expr} {es : List Expr} {ts : List Ty} {ta : TE} {p pos p2 : Pos} {k : Nat} (hx : m.get x = some .isi) (ha : PE X a ta) (hs : noStar a = true) (hb : tysOf m es = some ts) (hl : ts.length ≤ sizeLine) :
    PE X (.Call (.Name x p) [a, .Tuple es k p2] [] pos) (fun σ H Q => ta σ H fun y H1 => rIsA X.K ts y H1 Q) := by
  obtain ⟨hg, hd, hn, hm, hv⟩ := c.get hx
  refine ⟨fun pins s σ H Q I hw => ?_⟩
  refine wpAny_Call_Name_kw (ld_blt I hg hm hv (PyProof.Rows.callWith_builtin1 ?_ (star_cons hs) (star_any rfl)) hn hd)
  rw [star_cons hs]
  show wpAny _ _ (spliced ((false, eval a X.env) :: (false, eval (.Tuple es k p2) X.env) :: backTo pos (starEach [] X.env))) _ _ s
  refine Calls.spliced_cons (thn (ha.run pins s σ H _ I hw) fun u s1 ⟨y, H1, I1, ry, q1⟩ => Calls.spliced_cons (wpAny_Tuple_spliced (tys_ld c hb I1 ⟨by rw [List.length_map]; exact hl, Calls.spliced_nil ?_⟩)))
  obtain ⟨T, f, ty, hk, q⟩ := isA_of q1
  have I2 : Inv X pins σ H1 { s1 with heap := s1.heap.push { cls := .type "tuple", data := .seq (ts.map fun t => Value.type t.nm).toArray } } := I1.kept (t' := s1.toks) fun b o e => Heap.get?_push_of_some _ e
  obtain ⟨P, Z, z, hy⟩ := kit_of I2 ry ty
  exact PySem.W.kia_tup Z I2.kIn z (Heap.get?_push_size _ rfl) (kit_many hk ts) hy fun tk => ⟨.bl _, H1, I2.tok tk, rfl, q⟩
/-! ### in a written tuple -/
theorem in_run {neg : Bool} {op : CmpOp} (hop : op = if neg then .NotIn else .In) {y : V} {u : Value} {xs : List V} {us : List Value} {pins : List (Addr × Obj)} {s : Shared} {σ : L2.St} {H : Hp} {Q : VK} (I : Inv X pins σ H s) (ry : RelV y u) (rv : Vals xs us)
    (fy : flatV y = true) (fx : xs.all flatV = true) (q : Q (.bl (if neg then !inV y xs else inV y xs)) H) :
    wpAny (model X.prog X.w) X.A (compareOp op u (.ref s.heap.objs.size)) (EP X pins σ Q) X.xe { s with heap := s.heap.push { cls := .type "tuple", data := .seq us.toArray } } := by
  have I2 : Inv X pins σ H { s with heap := s.heap.push { cls := .type "tuple", data := .seq us.toArray } } := I.kept (t' := s.toks) fun b o e => Heap.get?_push_of_some _ e
  cases neg with
  | false =>
    subst hop
    refine SeqAt.in_tupleAt (eqU y) (IsTup.new s.heap us.toArray) (fun w hw => mem_eqAt ry fy rv fx w (by simpa using hw)) ⟨.bl _, H, I2, rfl, ?_⟩
    rw [show us.toArray.any (eqU y) = us.any (eqU y) by simp, any_eqU rv fx]
    exact q
  | true =>
    subst hop
    refine SeqAt.notIn_tupleAt (eqU y) (IsTup.new s.heap us.toArray) (fun w hw => mem_eqAt ry fy rv fx w (by simpa using hw)) ⟨.bl _, H, I2, rfl, ?_⟩
    rw [show us.toArray.any (eqU y) = us.any (eqU y) by simp, any_eqU rv fx]
    exact q
theorem pe_inTM {neg : Bool} {op : CmpOp} {a : Expr} {es : List Expr} {k : Nat} {p2 pos : Pos} {ta : TE} {te : TA} (hop : op = if neg then .NotIn else .In) (ha : PE X a ta) (he : PAn X es te) :
    PE X (.Compare a [op] [.Tuple es k p2] pos) (fun σ H Q => ta σ H fun x H1 => te σ H1 fun ys H2 => flatV x = true ∧ ys.all flatV = true ∧ ys.length ≤ sizeLine ∧ Q (.bl (if neg then !inV x ys else inV x ys)) H2) :=
  ⟨fun pins s σ H Q I h => wpAny_Compare1 (thn (ha.run pins s σ H _ I h) fun u s1 ⟨y, H1, I1, ry, q1⟩ => wpAny_Tuple_spliced (thn (he.run p2 pins s1 σ H1 _ I1 q1) fun us s2 ⟨_, xs, H2, I2, rv, f1, f2, hz, q2⟩ =>
    ⟨by rw [← rv.length]; exact hz, in_run hop I2 ry rv f1 f2 q2⟩)) rfl⟩
theorem in_runL {neg : Bool} {op : CmpOp} (hop : op = if neg then .NotIn else .In) {y : V} {u : Value} {xs : List V} {us : List Value} {pins : List (Addr × Obj)} {s : Shared} {σ : L2.St} {H : Hp} {Q : VK} (I : Inv X pins σ H s) (ry : RelV y u) (rv : Vals xs us)
    (fy : flatV y = true) (fx : xs.all flatV = true) (q : Q (.bl (if neg then !inV y xs else inV y xs)) H) :
    wpAny (model X.prog X.w) X.A (compareOp op u (.ref s.heap.objs.size)) (EP X pins σ Q) X.xe { s with heap := s.heap.push { cls := .type "list", data := .seq us.toArray } } := by
  have I2 : Inv X pins σ H { s with heap := s.heap.push { cls := .type "list", data := .seq us.toArray } } := I.kept (t' := s.toks) fun b o e => Heap.get?_push_of_some _ e
  have il : (s.heap.push { cls := .type "list", data := .seq us.toArray }).IsList s.heap.objs.size us.toArray := ⟨_, Heap.get?_push_size _ rfl, rfl, 0, rfl⟩
  cases neg with
  | false =>
    subst hop
    refine SeqAt.in_listAt (eqU y) il (fun w hw => mem_eqAt ry fy rv fx w (by simpa using hw)) ⟨.bl _, H, I2, rfl, ?_⟩
    rw [show us.toArray.any (eqU y) = us.any (eqU y) by simp, any_eqU rv fx]
    exact q
  | true =>
    subst hop
    refine SeqAt.notIn_listAt (eqU y) il (fun w hw => mem_eqAt ry fy rv fx w (by simpa using hw)) ⟨.bl _, H, I2, rfl, ?_⟩
    rw [show us.toArray.any (eqU y) = us.any (eqU y) by simp, any_eqU rv fx]
    exact q
theorem pe_inLM {neg : Bool} {op : CmpOp} {a : Expr} {es : List Expr} {p2 pos : Pos} {ta : TE} {te : TA} (hop : op = if neg then .NotIn else .In) (ha : PE X a ta) (he : PAn X es te) :
    PE X (.Compare a [op] [.List es p2] pos) (fun σ H Q => ta σ H fun x H1 => te σ H1 fun ys H2 => flatV x = true ∧ ys.all flatV = true ∧ ys.length ≤ sizeLine ∧ Q (.bl (if neg then !inV x ys else inV x ys)) H2) :=
  ⟨fun pins s σ H Q I h => wpAny_Compare1 (thn (ha.run pins s σ H _ I h) fun u s1 ⟨y, H1, I1, ry, q1⟩ => wpAny_List_spliced (thn (he.run p2 pins s1 σ H1 _ I1 q1) fun us s2 ⟨_, xs, H2, I2, rv, f1, f2, hz, q2⟩ =>
    ⟨by rw [← rv.length]; exact hz, in_runL hop I2 ry rv f1 f2 q2⟩)) rfl⟩
theorem pt_inLM {neg : Bool} {op : CmpOp} {a : Expr} {es : List Expr} {p2 pos : Pos} {ta : TE} {te : TA} (hop : op = if neg then .NotIn else .In) (ha : PE X a ta) (he : PAn X es te) :
    PT X (.Compare a [op] [.List es p2] pos) (fun σ H Q => ta σ H fun x H1 => te σ H1 fun ys H2 => flatV x = true ∧ ys.all flatV = true ∧ ys.length ≤ sizeLine ∧ Q (if neg then !inV x ys else inV x ys) H2) := by
  refine ⟨fun pins s σ H Q I h => wpAny_isTrue_Compare1 (thn (ha.run pins s σ H _ I h) fun u s1 ⟨y, H1, I1, ry, q1⟩ => wpAny_List_spliced (thn (he.run p2 pins s1 σ H1 _ I1 q1) fun us s2 ⟨_, xs, H2, I2, rv, f1, f2, hz, q2⟩ =>
    ⟨by rw [← rv.length]; exact hz, thn (in_runL (Q := fun z H3 => ∃ b, z = .bl b ∧ Q b H3) hop I2 ry rv f1 f2 ⟨_, rfl, q2⟩) fun z s3 ⟨zv, H3, I3, rz, b, eb, q3⟩ => ?_⟩)) rfl⟩
  subst eb
  obtain rfl : z = Value.bool b := rz
  exact wpAny_truthy_bool ⟨H3, I3, q3⟩
theorem pt_inTM {neg : Bool} {op : CmpOp} {a : Expr} {es : List Expr} {k : Nat} {p2 pos : Pos} {ta : TE} {te : TA} (hop : op = if neg then .NotIn else .In) (ha : PE X a ta) (he : PAn X es te) :
    PT X (.Compare a [op] [.Tuple es k p2] pos) (fun σ H Q => ta σ H fun x H1 => te σ H1 fun ys H2 => flatV x = true ∧ ys.all flatV = true ∧ ys.length ≤ sizeLine ∧ Q (if neg then !inV x ys else inV x ys) H2) := by
  refine ⟨fun pins s σ H Q I h => wpAny_isTrue_Compare1 (thn (ha.run pins s σ H _ I h) fun u s1 ⟨y, H1, I1, ry, q1⟩ => wpAny_Tuple_spliced (thn (he.run p2 pins s1 σ H1 _ I1 q1) fun us s2 ⟨_, xs, H2, I2, rv, f1, f2, hz, q2⟩ =>
    ⟨by rw [← rv.length]; exact hz, thn (in_run (Q := fun z H3 => ∃ b, z = .bl b ∧ Q b H3) hop I2 ry rv f1 f2 ⟨_, rfl, q2⟩) fun z s3 ⟨zv, H3, I3, rz, b, eb, q3⟩ => ?_⟩)) rfl⟩
  subst eb
  obtain rfl : z = Value.bool b := rz
  exact wpAny_truthy_bool ⟨H3, I3, q3⟩
end
end CW

namespace CW
open PySem PySem.Spec PyProof.Rows L2
section
variable {X : Cx} {m : Cm} {W : WX}
/-! ### what is walked -/
theorem pi_val {tg e : Expr} {t : TE} (h : PE X e t) : PI X tg e (fun σ H R => t σ H fun x H1 => iVal X.K x H1 R) := by
  refine ⟨fun pins s σ H R I hw => ?_⟩
  refine thn (h.run pins s σ H _ I hw) fun u s1 ⟨x, H1, I1, rx, q⟩ => ?_
  have k : ∀ {wi : TI} {R' : It → Hp → Prop} (e' : Expr), True := fun _ => trivial
  cases x with
  | str z =>
    obtain ⟨t, rfl⟩ := rx
    have q : R (Its z) H1 := q
    cases ha : z.cps.all (· < 128)
    · exact wpAny_pyIter_wide ha (pi_one (tk := s1.toks) I1 _ (turn_str _ z t "str_iterator" (.inr rfl)) ⟨_, Heap.get?_push_size _ rfl, rfl, rfl⟩ q)
    · exact wpAny_pyIter_ascii ha (pi_one (tk := s1.toks) I1 _ (turn_str _ z t "str_ascii_iterator" (.inl rfl)) ⟨_, Heap.get?_push_size _ rfl, rfl, rfl⟩ q)
  | ref a =>
    obtain rfl : u = Value.ref a := rx
    rcases q with ⟨⟨xs, hq⟩, q⟩ | ⟨⟨xs, hq⟩, q⟩
    · obtain ⟨its, rv, p, hz⟩ := I1.list hq
      exact wpAny_pyIter_list p.isList (pi_one (tk := s1.toks) I1 _ (turn_list a _) ⟨_, Heap.get?_push_size _ rfl, rfl, rfl⟩ q)
    · obtain ⟨its, rv, p, hz⟩ := I1.tuple hq
      exact wpAny_pyIter_tuple (show s1.heap.IsTuple a its.toArray from p) (pi_one (tk := s1.toks) I1 _ (turn_tuple a _) ⟨_, Heap.get?_push_size _ rfl, rfl, rfl⟩ q)
  | _ => exact q.elim
/-! ### targets -/
theorem pgs_ok {f : Expr → Option E} (hf : ∀ e a, f e = some a → PG X e (wG X.K W a)) : ∀ {es : List Expr} {a : E}, mapE f es = some a → PGs X es (wGs X.K W a) ∧ (assignEach es X.env).length = es.length ∧ (assignEach es X.env).findIdx? (·.1) = none
  | [], a, h => by
    obtain rfl := Option.some.inj h
    exact ⟨pgs_nil, rfl, rfl⟩
  | e :: es, a, h => by
    unfold mapE at h
    split at h
    · rename_i hn
      split at h
      · rename_i a1 r1 e1 e2
        obtain rfl := Option.some.inj h
        obtain ⟨ih, h1, h2⟩ := pgs_ok hf e2
        have ea : assignEach (e :: es) X.env = (false, assign e X.env) :: assignEach es X.env := by cases e <;> first | rfl | cases hn
        refine ⟨pgs_cons (hf e a1 e1) ih (by rw [ea]; rfl), by rw [ea, List.length_cons, h1, List.length_cons], ?_⟩
        rw [ea, List.findIdx?_cons]
        simp only [Bool.false_eq_true, if_false]
        rw [h2]; rfl
      · cases h
    · cases h
theorem lenE_ok {f : Expr → Option E} : ∀ {es : List Expr} {a : E}, mapE f es = some a → lenE a = es.length
  | [], a, h => by
    obtain rfl := Option.some.inj h
    rfl
  | e :: es, a, h => by
    unfold mapE at h
    split at h
    · split at h
      · rename_i a1 r1 e1 e2
        obtain rfl := Option.some.inj h
        show lenE r1 + 1 = _
        rw [lenE_ok e2, List.length_cons]
      · cases h
    · cases h
theorem pg_tupM {f : Expr → Option E} (hf : ∀ e a, f e = some a → PG X e (wG X.K W a)) {es : List Expr} {a : E} {k : Nat} {pos : Pos} (hc : X.calm = true) (h : mapE f es = some a) : PG X (.Tuple es k pos) (wG X.K W (.tup a)) := by
  obtain ⟨h1, h2, h3⟩ := pgs_ok hf h
  have z := pg_tup (k := k) (pos := pos) hc h1 (h2.trans (lenE_ok h).symm) h3
  exact z
end
end CW

namespace CW
open PySem PySem.Spec PyProof.Rows L2
def special : E → Bool
  | .not _ => true | .and _ _ => true | .or _ _ => true | .cmp _ _ _ => true | .cmp2 _ _ _ _ _ => true | .inT _ _ _ => true | .cmpO _ _ _ _ => true
  | _ => false
theorem pt_any {X : Cx} {W : WX} {e : Expr} {a : E} (h : PE X e (wE X.K W a)) (hp : plainTest e = true) (hs : special a = false) : PT X e (wT X.K W a) := by
  have z := pt_tru h hp
  have no : ∀ {b : E}, wT X.K W b = (fun _ _ _ => False) → PT X e (wT X.K W b) := fun {b} eb => by rw [eb]; exact ⟨fun _ _ _ _ _ _ h => h.elim⟩
  cases a with
  | c v => exact z
  | v i =>
    refine ⟨fun pins s σ H Q I hw => z.run pins s σ H Q I ?_⟩
    show (match σ[i]? with | some (some x) => rTru X.K x H Q | _ => False)
    exact hw
  | call sp as ks ar => exact z
  | bi b as => exact z
  | bid b l => exact z
  | mt m o as => exact z
  | isA a ts => exact z
  | sub a i => exact z
  | own k a as ks => exact z
  | not a => cases hs
  | and a b => cases hs
  | or a b => cases hs
  | cmp op a b => cases hs
  | cmp2 op op' a b c => cases hs
  | inT neg a es => cases hs
  | cmpO op opts a b => cases hs
  | _ => exact no rfl
def isBoolOp : Expr → Bool
  | .BoolOp .. => true
  | _ => false
/-- the reading is right -/
structure Rt (X : Cx) (W : WX) (e : Expr) (a : E) : Prop where
  pe : PE X e (wE X.K W a)
  pt : PT X e (wT X.K W a)
  pw : isBoolOp e = true → PW X e (wT X.K W a)
theorem Rt.plain {X : Cx} {W : WX} {e : Expr} {a : E} (h : PE X e (wE X.K W a)) (hp : plainTest e = true) (hs : special a = false) : Rt X W e a :=
  ⟨h, pt_any h hp hs, fun z => by cases e <;> first | (cases z; done) | (cases hp; done)⟩
theorem map_some {α β : Type} {f : α → β} {o : Option α} {b : β} (h : o.map f = some b) : ∃ a, o = some a ∧ f a = b := by
  cases o with
  | none => cases h
  | some a => exact ⟨a, rfl, Option.some.inj h⟩
section
variable {X : Cx} {m : Cm} {W : WX}
/-- C(..) -/
theorem pe_makeO (c : Cnd X m W) {x : Str} {ci : CI} {mi : MI} {ar : List Ar} {p pos : Pos} {as : List Expr} {ks : List Keyword} {as' ks' : E} (hx : m.get x = some (.cls ci)) (hi : ci.ini = some mi)
    (ha : PAn X as (wA X.K W as') ∧ as.all noStar = true ∧ (as = [] → as' = .nil)) (hk : PKn X ks (wA X.K W ks') ∧ (∀ pos, (backToKw pos (keywordEach ks X.env)).all (·.1.isSome) = true) ∧ (∀ pos, (backToKw pos (keywordEach ks X.env)).filterMap (·.1) = kwNames ks) ∧ (∀ pos, (backToKw pos (keywordEach ks X.env)).any (·.1.isNone) = false) ∧ (kwNames ks).length = ks.length)
    (hs : shapeOf mi.sh (as.length + 1) (kwNames ks) = some ar) : PE X (.Call (.Name x p) as ks pos) (wE X.K W (.own (.make ci.C mi.sp ar) .nil as' ks')) := by
  obtain ⟨hg, hd, hn, mg, ok⟩ := c.get hx
  obtain ⟨f, Mk0, M⟩ := ok.ini mi hi
  obtain ⟨hk1, hk2, hk3, hk4, hk5⟩ := hk
  have hb := shape_mem hs
  refine ⟨fun pins s σ H Q I hw => wpAny_Call_Name_kw (ld_glob I hg mg ?_ hd)⟩
  have fin : ∀ (us : List Value) (s1 : Shared), (us.length = as.length ∧ AP X pins σ (fun vs H1 => wA X.K W ks' σ H1 fun zs H2 => ∀ x dx, H2 x = none → H2 dx = none → dx ≠ x → mi.sp (arr ar (.ref x :: vs) zs) (upd (upd H2 dx (.own x)) x (.ins ci.C dx [])) (fun v H3 => v = .non ∧ Q (.ref x) H3) fun cls d H' => W cls d σ H') us s1) →
      wpAny (model X.prog X.w) X.A (evalAll ((backToKw pos (keywordEach ks X.env)).map (·.2))) (fun ws s2 => X.K.In s2.heap ∧ wpAny (model X.prog X.w) X.A (call (.ref ci.C) ([] ++ us) (((backToKw pos (keywordEach ks X.env)).filterMap (·.1)).zip ws)) (EP X pins σ Q) X.xe s2) X.xe s1 := by
    rintro us s1 ⟨hl, vs, H1, I1, rv, q1⟩
    refine thn (hk1.run pos pins s1 σ H1 _ I1 q1) fun ws s2 ⟨hl2, zs, H2, I2, rz, q2⟩ => ⟨I2.kIn, ?_⟩
    rw [hk3, List.nil_append]
    exact run_makeG c Mk0 M hb I2 rv rz hl (by rw [hl2, hk5]) q2
  cases as with
  | nil =>
    have e0 := ha.2.2 rfl
    subst e0
    refine PySem.W.callWith_KW0 (h₀ := X.base) I.ok.mod.kin Mk0.kp (hk2 pos) ?_ (by show (false || _) = false; rw [hk4]; rfl)
    exact fin [] s ⟨rfl, [], H, I, .nil, hw⟩
  | cons e es =>
    have hall := ha.2.1
    rw [List.all_cons, Bool.and_eq_true] at hall
    exact PySem.W.callWith_KW (h₀ := X.base) I.ok.mod.kin Mk0.kp (hk2 pos) (thn (ha.1.run pos pins s σ H _ I hw) fin) (by rw [star_any ha.2.1, hk4]; rfl) (star_cons hall.1)
/-- a built-in of one value -/
theorem pe_one1 {x : Str} {f : Value} {p pos : Pos} {e : Expr} {te : TE} {r : V → Hp → VK → Prop} (hf : (∃ id, f = .builtin id) ∨ ∃ T, f = .type T) (hg : Gl X x) (hd : (x == ("__debug__" : Str)) = false) (hn : x ≠ "__name__") (hm : X.mg x = none) (hv : bootBuiltins x = some f)
    (ha : PE X e te) (hs : noStar e = true) (hr : ∀ (pins : List (Addr × Obj)) (s : Shared) (σ : L2.St) (H : Hp) (y : V) (u : Value) (Q : VK), Inv X pins σ H s → RelV y u → r y H Q → wpAny (model X.prog X.w) X.A (call f [u]) (EP X pins σ Q) X.xe s) :
    PE X (.Call (.Name x p) [e] [] pos) (fun σ H Q => te σ H fun y H1 => r y H1 Q) := by
  refine ⟨fun pins s σ H Q I hw => wpAny_Call_Name_kw (ld_blt I hg hm hv ?_ hn hd)⟩
  have k : wpAny (model X.prog X.w) X.A (spliced (backTo pos (starEach [e] X.env))) (fun us s1 => wpAny (model X.prog X.w) X.A (call f us) (EP X pins σ Q) X.xe s1) X.xe s := by
    rw [star_cons hs]
    show wpAny _ _ (spliced ((false, eval e X.env) :: backTo pos (starEach [] X.env))) _ _ s
    exact Calls.spliced_cons (thn (ha.run pins s σ H _ I hw) fun u s1 ⟨y, H1, I1, ry, q1⟩ => Calls.spliced_nil (hr pins s1 σ H1 y u Q I1 ry q1))
  rcases hf with ⟨id, e1⟩ | ⟨T, e1⟩
  · rw [e1] at k ⊢
    exact PyProof.Rows.callWith_builtin1 k (star_cons hs) rfl
  · rw [e1] at k ⊢
    exact PyProof.Rows.callWith_type1 k (star_cons hs) rfl
theorem callR1 {f : Value} {r : List V → Hp → VK → Prop} (h : CallR X f r) (pins : List (Addr × Obj)) (s : Shared) (σ : L2.St) (H : Hp) (y : V) (u : Value) (Q : VK) (I : Inv X pins σ H s) (ry : RelV y u) (q : r [y] H Q) : wpAny (model X.prog X.w) X.A (call f [u]) (EP X pins σ Q) X.xe s :=
  h pins s σ H [y] [u] Q I (.cons ry .nil) q
theorem cmpO_ok (c : Cnd X m W) (op : CmpOp) : OpR X (compareOp op) (rCmpO X.K op (match op with
      | .In => msOf m.cl "__contains__" 2 []
      | .NotIn => msOf m.cl "__contains__" 2 []
      | op => match cmpNm op with
        | some nm => msOf m.cl nm 2 []
        | none => [])) := by
  intro pins s σ H x y v u Q I rx ry h
  have hu : X.A.units < cLine := by have := c.un; omega
  cases op with
  | In => exact run_inO c false rfl I rx ry h
  | NotIn => exact run_inO c true rfl I rx ry h
  | Eq =>
    rcases h with h | h
    · exact op_eqDS hu pins s σ H x y v u Q I rx ry h
    · exact run_cmpO c rfl I rx ry h
  | NotEq => exact op_neDS hu pins s σ H x y v u Q I rx ry h
  | LtE => exact run_cmpO c rfl I rx ry h
  | GtE => exact run_cmpO c rfl I rx ry h
  | Lt => exact run_cmpO c rfl I rx ry h
  | Gt => exact run_cmpO c rfl I rx ry h
  | Is => obtain ⟨_, _, _, _, _, _, _, _, hm, _⟩ := h; cases hm
  | IsNot => obtain ⟨_, _, _, _, _, _, _, _, hm, _⟩ := h; cases hm
theorem cr_srev (hc : X.calm = true) : CallRK X (.builtin "sorted") [Str.ofString "reverse"] (fun vs zs H Q => match vs, zs with
    | [x], [.bl true] => rSRev x H Q
    | _, _ => False) := by
  intro pins s σ H vs zs us ws Q I r1 r2 h
  split at h
  case h_2 => exact h.elim
  obtain ⟨a, kvs, ks, rfl, hd, hk, hl, q⟩ := h
  obtain ⟨u, rfl, ru⟩ := vals1 r1
  obtain ⟨u2, rfl, ru2⟩ := vals1 r2
  obtain rfl : u = Value.ref a := ru
  obtain rfl : u2 = Value.bool true := ru2
  exact run_sortedDRev hc I hd hk hl q
def fBl : Expr → Option E
  | .Constant (.bool b) _ _ => some (.c (.bl b))
  | _ => none
theorem pe_srev {x : Str} {p pos kp1 kpos : Pos} {e : Expr} {kk : Nat} {a1 : E} {f : Expr → Option E} (ih : ∀ e a, f e = some a → PE X e (wE X.K W a)) (hc : X.calm = true) (hg : Gl X x) (hd : (x == ("__debug__" : Str)) = false) (hn : x ≠ "__name__") (hm : X.mg x = none) (hv : bootBuiltins x = some (.builtin "sorted"))
    (ha : f e = some a1) (hs : noStar e = true) : PE X (.Call (.Name x p) [e] [⟨some "reverse", .Constant (.bool true) kk kp1, kpos⟩] pos) (wE X.K W (.own .srev a1 .nil .nil)) := by
  have hA : PA X [e] (wA X.K W (.cons a1 .nil)) := (args_ok ih (es := [e]) (a := .cons a1 .nil) (by simp [mapE, hs, ha])).1.pa
  have hK0 : PKn X [⟨some "reverse", .Constant (.bool true) kk kp1, kpos⟩] (wA X.K W (.cons (.c (.bl true)) .nil)) := (kws_ok (f := fBl) (fun e a h => by
    unfold fBl at h
    split at h
    · cases h; exact pe_bl
    · cases h) (ks := [⟨some "reverse", .Constant (.bool true) kk kp1, kpos⟩]) (a := .cons (.c (.bl true)) .nil) rfl).1
  have hK : PK X [⟨some "reverse", .Constant (.bool true) kk kp1, kpos⟩] (wA X.K W (.cons (.c (.bl true)) .nil)) := ⟨fun pos pins s σ H Q I hw => thn (hK0.run pos pins s σ H Q I hw) fun _ _ q => q.2⟩
  have z := pe_callBK (pos := pos) (p := p) (cr_srev hc) hg hm hv hA hK hn hd (by rw [star_cons hs]; rfl) (by rw [star_cons hs]; rfl)
  exact z
theorem goodO (c : Cnd X m W) {f : Expr → Option E} (ih : ∀ e a, f e = some a → PE X e (wE X.K W a)) {e : Expr} {a : E} (h : compO f m e = some a) : Rt X W e a := by
  unfold compO at h
  split at h
  · -- attribute
    split at h
    · rename_i hn
      obtain ⟨a1, e1, rfl⟩ := map_some h
      exact .plain (pe_attrO c (ih _ _ e1) (base_S hn)) rfl rfl
    · cases h
  · -- method
    split at h
    · rename_i hn
      simp only [Bool.and_eq_true, decide_eq_true_eq] at hn
      obtain ⟨⟨⟨n1, n2⟩, n3⟩, n4⟩ := hn
      split at h
      · rename_i e1 e2 e3
        obtain rfl := Option.some.inj h
        exact .plain (pe_mcall c (ih _ _ e1) n1 n2 n3 (args_ok ih e2) (kws_ok ih e3)) rfl rfl
      · cases h
    · cases h
  · -- a name called
    split at h
    · rename_i eg
      split at h
      · rename_i ei
        split at h
        · rename_i e1 e2 e3
          obtain rfl := Option.some.inj h
          exact .plain (pe_makeO c eg ei (args_ok ih e1) (kws_ok ih e2) e3) rfl rfl
        · cases h
      · cases h
    · split at h
      · split at h
        · rename_i e1 e2 e3
          obtain rfl := Option.some.inj h
          exact .plain (pe_ocall c (ih _ _ e1) rfl (args_ok ih e2) (kws_ok ih e3)) rfl rfl
        · cases h
      · cases h
    · rename_i b eg
      obtain ⟨hg, hd, hn, hm, hv⟩ := c.get eg
      split at h
      · split at h
        · rename_i ho
          rw [Bool.and_eq_true] at ho
          split at h
          · rename_i hb
            obtain rfl := eq_of_beq hb
            obtain ⟨a1, e1, rfl⟩ := map_some h
            exact .plain (pe_one1 (te := wE X.K W a1) (r := fun y H Q => rOwnF (msOf m.cl "__len__" 1 []) y [] H fun r H' => ∃ n : Nat, r = .int n ∧ n < 1000000 ∧ Q (.int n) H') (f := .builtin "len") (.inl ⟨_, rfl⟩) hg hd hn hm hv (ih _ _ e1) ho.2 fun pins s σ H y u Q I ry q => run_lenO c I ry q) rfl rfl
          · split at h
            · rename_i hb
              obtain rfl := eq_of_beq hb
              obtain ⟨a1, e1, rfl⟩ := map_some h
              exact .plain (pe_one1 (te := wE X.K W a1) (r := fun y H Q => rOwnF (msOf m.cl "__repr__" 1 []) y [] H fun r H' => ∃ z, r = .str z ∧ Q (.str z) H') (f := .builtin "repr") (.inl ⟨_, rfl⟩) hg hd hn hm hv (ih _ _ e1) ho.2 fun pins s σ H y u Q I ry q => run_reprO c I ry q) rfl rfl
            · cases h
        · cases h
      · rename_i ae kw kp1 kp2 kpos
        split at h
        · rename_i hb
          simp only [Bool.and_eq_true, decide_eq_true_eq] at hb
          obtain ⟨⟨rfl, hb⟩, hs⟩ := hb
          obtain rfl := eq_of_beq hb
          obtain ⟨a1, e1, rfl⟩ := map_some h
          exact .plain (pe_srev ih c.calm hg hd hn hm hv e1 hs) rfl rfl
        · cases h
      · cases h
    · rename_i t _ eg
      obtain ⟨hg, hd, hn, hm, hv, hb⟩ := c.get eg
      have dct : ∀ {e : Expr} {a1 : E} {p pos : Pos}, (t.nm == "dict") = true → f e = some a1 → noStar e = true → Rt X W (.Call (.Name _ p) [e] [] pos) (.own .dict a1 .nil .nil) := fun {e a1 p pos} h1 h2 h3 => by
        rw [eq_of_beq h1] at hv
        refine .plain (pe_one1 (te := wE X.K W a1) (r := fun x H1 Q => (∃ (a : Addr) (ps : List Addr) (kvs : List (Key × V)), x = .ref a ∧ SqL X.K H1 a (ps.map V.ref) ∧ Paired (fun p kv => SqT X.K H1 p [kV kv.1, kv.2]) ps kvs ∧ ∀ p, H1 p = none → Q (.ref p) (upd H1 p (.dK (mergeK [] kvs)))) ∨
      ∃ (a : Addr) (kvs : List (Key × V)), x = .ref a ∧ Rd H1 a (.dK kvs) ∧ ∀ p, H1 p = none → Q (.ref p) (upd H1 p (.dK kvs))) (f := .type "dict") (.inr ⟨_, rfl⟩) hg hd hn hm hv (ih _ _ h2) h3 fun pins s σ H y u Q I ry q => ?_) rfl rfl
        rcases q with ⟨a, ps, kvs, rfl, q⟩ | ⟨a, kvs, rfl, q⟩
        · exact callR1 (call_dictP c.calm) pins s σ H _ u Q I ry ⟨a, ps, kvs, rfl, q⟩
        · exact callR1 call_dictD pins s σ H _ u Q I ry ⟨a, kvs, rfl, q⟩
      split at h
      · split at h
        · rename_i ho
          simp only [Bool.and_eq_true, decide_eq_true_eq] at ho
          obtain ⟨⟨⟨⟨rfl, rfl⟩, ht⟩, hs⟩, hl⟩ := ho
          rw [eq_of_beq ht] at hv
          obtain ⟨a1, e1, rfl⟩ := map_some h
          exact .plain (LiI.pe_listItems c.calm (ih _ _ e1) hg hm hv (base_S hs) hl rfl) rfl rfl
        · split at h
          · rename_i ho
            rw [Bool.and_eq_true] at ho
            obtain ⟨a1, e1, rfl⟩ := map_some h
            exact dct ho.1 e1 ho.2
          · cases h
      · split at h
        · rename_i ho
          rw [Bool.and_eq_true] at ho
          obtain ⟨a1, e1, rfl⟩ := map_some h
          exact dct ho.1 e1 ho.2
        · split at h
          · rename_i ho
            simp only [Bool.and_eq_true] at ho
            obtain ⟨⟨_, ht⟩, hs⟩ := ho
            rw [eq_of_beq ht] at hv
            obtain ⟨a1, e1, rfl⟩ := map_some h
            exact .plain (pe_one1 (te := wE X.K W a1) (r := fun x H1 Q => ∃ (a : Addr) (kvs : List (Key × V)), x = .ref a ∧ Rd H1 a (.dK kvs) ∧ ∀ p, H1 p = none → Q (.ref p) (upd H1 p (.lst (kvs.map fun kv => kV kv.1)))) (f := .type "list") (.inr ⟨_, rfl⟩) hg hd hn hm hv (ih _ _ e1) hs fun pins s σ H y u Q I ry ⟨a, kvs, ey, q⟩ => callR1 (call_listD c.calm) pins s σ H _ u Q I ry ⟨a, kvs, by rw [ey], q⟩) rfl rfl
          · cases h
      · cases h
    · cases h
  · -- a sum called
    split at h
    · rename_i e1 e2 e3
      obtain rfl := Option.some.inj h
      exact .plain (pe_ocall c (ih _ _ e1) rfl (args_ok ih e2) (kws_ok ih e3)) rfl rfl
    · cases h
  · split at h
    · split at h
      · rename_i e1 e2
        obtain rfl := Option.some.inj h
        split
        · rename_i hop
          rw [Bool.and_eq_true] at hop
          have hop := eq_of_beq hop.2
          subst hop
          exact .plain ⟨fun pins s σ H Q I hw => wpAny_BinOp (binT (ih _ _ e1) (ih _ _ e2) I hw fun v u s2 x y H2 I2 rx ry q => run_rbinO c I2 rx ry q)⟩ rfl rfl
        · exact .plain ⟨fun pins s σ H Q I hw => wpAny_BinOp (binT (ih _ _ e1) (ih _ _ e2) I hw fun v u s2 x y H2 I2 rx ry q => run_binO c I2 rx ry q)⟩ rfl rfl
      · cases h
    · cases h
  · split at h
    · rename_i hn
      rw [Bool.and_eq_true] at hn
      split at h
      · rename_i e1 e2
        obtain rfl := Option.some.inj h
        exact .plain ⟨fun pins s σ H Q I hw => Subscript_ (binT (ih _ _ e1) (ih _ _ e2) I hw fun v u s2 x y H2 I2 rx ry q => run_subO c hn.2 I2 rx ry q)⟩ rfl rfl
      · cases h
    · cases h
  · split at h
    · rename_i hn
      simp only [Bool.and_eq_true, Bool.not_eq_true'] at hn
      split at h
      · rename_i e1 e2
        obtain rfl := Option.some.inj h
        exact ⟨pe_cmpR (cmpO_ok c _) (ih _ _ e1) (ih _ _ e2) hn.2, pt_cmpM (cmpO_ok c _) (ih _ _ e1) (ih _ _ e2) hn.2, fun q => nomatch q⟩
      · cases h
    · cases h
  · split at h
    · rename_i e1 e2 e3
      obtain rfl := Option.some.inj h
      exact .plain (pe_ds1 (ih _ _ e1) (ih _ _ e2) (ih _ _ e3)) rfl rfl
    · cases h
  · split at h
    · rename_i e1 e2
      obtain rfl := Option.some.inj h
      exact .plain (pe_ds2 (ih _ _ e1) (ih _ _ e2)) rfl rfl
    · cases h
  · cases h
end
end CW

namespace CW
open PySem PySem.Spec PyProof.Rows L2
theorem CiOk.blk {X : Cx} {ci : CI} (k : CiOk X ci) (scope : Scope) (s : Shared) (H : Hp) (C : Addr) (cl : List (Str × Addr)) (fp : List Addr) : CiOk (X.blk s H scope (compEnvC scope cl C X.env) fp) ci :=
  ⟨k.c, k.sq, k.sf, fun mi h => k.ini mi h, fun p h => k.ms p h, fun p h => k.prs p h, fun p h => k.cs p h, fun p h => k.fl p h⟩
/-- a name of the block -/
theorem Cnd.blk {X : Cx} {m : Cm} {W : WX} (c : Cnd X m W) (scope : Scope) (s : Shared) (H : Hp) (C : Addr) (cl : List (Str × Addr)) (fp : List Addr) : Cnd (X.blk s H scope (compEnvC scope cl C X.env) fp) (m.blk scope) W0 where
  N := c.N
  nd := c.nd
  sc := by
    show relS scope X.env.scope = relS scope m.sc
    rw [c.sc]
  fn := rfl
  calm := c.calm
  gd := c.gd
  un := c.un
  tk := takes0
  po := PassesOwn.never
  gl := fun p hp => by
    have z := c.gl p hp
    obtain ⟨x, g⟩ := p
    cases g with
    | cls ci => exact ⟨z.1, z.2.blk scope s H C cl fp⟩
    | _ => exact z
  cl := fun ci h => (c.cl ci h).blk scope s H C cl fp

/-- the comprehension's parts -/
structure LcOk (X : Cx) (W : WX) (elt tg iter : Expr) (ifs : List Expr) (scope : Scope) (own : List (Str × Nat)) (e t it cs : E) : Prop where
  hs : ∀ x, foldedSetIterable iter X.env x = pure x
  ok : BlkOk X.N X.env.scope scope own
  hi : PI X tg iter (wI X.K W it)
  hg : ∀ (s : Shared) (H : Hp) (C : Addr) (cl : List (Str × Addr)) (fp : List Addr), PG (X.blk s H scope (compEnvC scope cl C X.env) fp) tg (wG X.K W0 t)
  ht : ∀ (s : Shared) (H : Hp) (C : Addr) (cl : List (Str × Addr)) (fp : List Addr), PTs (X.blk s H scope (compEnvC scope cl C X.env) fp) ifs (wC X.K W0 cs)
  he : ∀ (s : Shared) (H : Hp) (C : Addr) (cl : List (Str × Addr)) (fp : List Addr), PE (X.blk s H scope (compEnvC scope cl C X.env) fp) elt (wE X.K W0 e)
theorem wrap_pe {X : Cx} {m : Cm} {W : WX} {e i : Expr} {a : E} (h : PE X e (wE X.K W a)) (hp : plainTest e = true) (hs : special a = false) : Rt X W e (m.wrap i a) := by
  unfold Cm.wrap
  split
  · exact .plain (pe_lock h) hp rfl
  · exact .plain h hp hs
def GoodE (n : Nat) : Prop := ∀ (m : Cm) (e : Expr) (a : E), compE n m e = some a → ∀ (X : Cx) (W : WX), Cnd X m W → Rt X W e a
def GoodB (n : Nat) : Prop := ∀ (m : Cm) (b : Bi) (as : List Expr) (ks : List Keyword) (a : E), compB n m b as ks = some a → ∀ (X : Cx) (W : WX), Cnd X m W → ∀ (x : Str) (p pos : Pos), Gl X x → (x == ("__debug__" : Str)) = false → x ≠ "__name__" → X.mg x = none → bootBuiltins x = some b.val →
  PE X (.Call (.Name x p) as ks pos) (wE X.K W a) ∧ special a = false
def GoodG (n : Nat) : Prop := ∀ (m : Cm) (e : Expr) (a : E), compG n m e = some a → ∀ (X : Cx) (W : WX), Cnd X m W → PG X e (wG X.K W a)
def GoodI (n : Nat) : Prop := ∀ (m : Cm) (tg e : Expr) (a : E), compI n m tg e = some a → ∀ (X : Cx) (W : WX), Cnd X m W → PI X tg e (wI X.K W a)
theorem noStar_of {n : Nat} {m : Cm} {e : Expr} {a : E} (h : compE n m e = some a) : noStar e = true := by
  cases n with
  | zero => simp only [compE] at h; cases h
  | succ n =>
    cases e <;> first | rfl | (simp only [compE, compO] at h; cases h)
theorem lcOk {n : Nat} (gE : GoodE n) (gG : GoodG n) (gI : GoodI n) {X : Cx} {m : Cm} {W : WX} (c : Cnd X m W) {elt tg iter : Expr} {ifs : List Expr} {scope : Scope} {e t it cs : E} (h1 : (notSet iter && blkC m.N m.sc scope (ownOf m.N scope) && decide (ifs.length ≤ 1)) = true)
    (h2 : compI n m tg iter = some it) (h3 : compG n (m.blk scope) tg = some t) (h4 : mapE (compE n (m.blk scope)) ifs = some cs) (h5 : compE n (m.blk scope) elt = some e) : LcOk X W elt tg iter ifs scope (ownOf m.N scope) e t it cs := by
  simp only [Bool.and_eq_true, decide_eq_true_eq] at h1
  obtain ⟨⟨n1, n2⟩, n3⟩ := h1
  refine ⟨folded_no (by cases iter <;> first | rfl | cases n1), ?_, gI m tg iter it h2 X W c, fun s H C cl fp => gG _ _ _ h3 _ _ (c.blk scope s H C cl fp), fun s H C cl fp => ?_, fun s H C cl fp => (gE _ _ _ h5 _ _ (c.blk scope s H C cl fp)).pe⟩
  · rw [c.N, c.sc]
    exact blkOk_by n2
  · cases ifs with
    | nil =>
      obtain rfl := Option.some.inj h4
      exact pts_nil
    | cons q r =>
      cases r with
      | nil =>
        unfold mapE at h4
        split at h4
        · split at h4
          · rename_i a1 r1 e1 e2
            obtain rfl := Option.some.inj h4
            exact pts_one (gE _ _ _ e1 _ _ (c.blk scope s H C cl fp)).pt
          · cases h4
        · cases h4
      | cons _ _ => simp at n3
theorem goodE {n : Nat} (gE : GoodE n) (gB : GoodB n) (gG : GoodG n) (gI : GoodI n) : GoodE (n + 1) := by
  intro m e a h X W c
  have ih : ∀ e a, compE n m e = some a → PE X e (wE X.K W a) := fun e a h => (gE m e a h X W c).pe
  unfold compE at h
  split at h
  · rename_i ho
    obtain rfl := Option.some.inj h
    exact goodO c ih ho
  rename_i hno
  clear hno
  split at h
  · obtain rfl := Option.some.inj h
    exact .plain pe_int rfl rfl
  · obtain rfl := Option.some.inj h
    exact .plain pe_str rfl rfl
  · obtain rfl := Option.some.inj h
    exact .plain pe_bl rfl rfl
  · obtain rfl := Option.some.inj h
    exact .plain pe_non rfl rfl
  · -- a name
    unfold Cm.name at h
    split at h
    · cases h
    · rename_i no
      have no' := (Bool.not_eq_true _).mp no
      split at h
      · rename_i hv
        obtain ⟨i, hi, rfl⟩ := map_some h
        refine .plain ⟨fun pins s σ H Q I hw => ?_⟩ rfl rfl
        have hw : (match σ[i]? with | some (some x) => Q x H | _ => False) := hw
        split at hw
        · rename_i x ex
          exact (pe_var (c.slot hi) (c.vis hv) (odd_no no').1 (odd_no no').2).run pins s σ H Q I ⟨x, ex, hw⟩
        · exact hw.elim
      · split at h
        · rename_i v eg
          obtain rfl := Option.some.inj h
          obtain ⟨hg, hd, _, u, hm, r⟩ := c.get eg
          exact .plain (pe_glob hg hm r hd) rfl rfl
        · cases h
  · split at h
    · rename_i e1 e2
      obtain rfl := Option.some.inj h
      exact .plain (pe_op (bin_ok _) (ih _ _ e1) (ih _ _ e2)) rfl rfl
    · cases h
  · obtain ⟨a1, e1, rfl⟩ := map_some h
    have z := gE m _ a1 e1 X W c
    exact ⟨pe_notM z.pe, pt_not z.pt, fun q => nomatch q⟩
  · obtain ⟨a1, e1, rfl⟩ := map_some h
    rename_i op _ _ hop
    refine .plain (pe_un (un_ok _) (ih _ _ e1)) ?_ rfl
    cases op <;> first | rfl | exact absurd rfl hop
  · have z := gE m _ a h X W c
    exact ⟨pe_one z.pe, (pw_and1 z.pt).pt, fun _ => pw_and1 z.pt⟩
  · have z := gE m _ a h X W c
    exact ⟨pe_one z.pe, (pw_or1 z.pt).pt, fun _ => pw_or1 z.pt⟩
  · split at h
    · rename_i e1 e2
      obtain rfl := Option.some.inj h
      have z1 := gE m _ _ e1 X W c
      have z2 := gE m _ _ e2 X W c
      exact ⟨pe_andM z1.pe z2.pe, (pw_and z1.pt (z2.pw rfl)).pt, fun _ => pw_and z1.pt (z2.pw rfl)⟩
    · cases h
  · split at h
    · rename_i e1 e2
      obtain rfl := Option.some.inj h
      have z1 := gE m _ _ e1 X W c
      have z2 := gE m _ _ e2 X W c
      exact ⟨pe_orM z1.pe z2.pe, (pw_or z1.pt (z2.pw rfl)).pt, fun _ => pw_or z1.pt (z2.pw rfl)⟩
    · cases h
  · split at h
    · rename_i e1 e2 e3
      obtain rfl := Option.some.inj h
      exact ⟨pe_ifExp (gE m _ _ e1 X W c).pt (ih _ _ e2) (ih _ _ e3), ⟨fun _ _ _ _ _ _ h => h.elim⟩, fun q => nomatch q⟩
    · cases h
  · split at h
    · rename_i e1 e2
      obtain rfl := Option.some.inj h
      have z := args_ok ih e2
      exact ⟨pe_inTM (neg := false) rfl (ih _ _ e1) z.1, pt_inTM (neg := false) rfl (ih _ _ e1) z.1, fun q => nomatch q⟩
    · cases h
  · split at h
    · rename_i e1 e2
      obtain rfl := Option.some.inj h
      have z := args_ok ih e2
      exact ⟨pe_inTM (neg := true) rfl (ih _ _ e1) z.1, pt_inTM (neg := true) rfl (ih _ _ e1) z.1, fun q => nomatch q⟩
    · cases h
  · split at h
    · rename_i e1 e2
      obtain rfl := Option.some.inj h
      have z := args_ok ih e2
      exact ⟨pe_inLM (neg := false) rfl (ih _ _ e1) z.1, pt_inLM (neg := false) rfl (ih _ _ e1) z.1, fun q => nomatch q⟩
    · cases h
  · split at h
    · rename_i e1 e2
      obtain rfl := Option.some.inj h
      have z := args_ok ih e2
      exact ⟨pe_inLM (neg := true) rfl (ih _ _ e1) z.1, pt_inLM (neg := true) rfl (ih _ _ e1) z.1, fun q => nomatch q⟩
    · cases h
  · split at h
    · cases h
    · rename_i hm
      have hm' := (Bool.not_eq_true _).mp hm
      split at h
      · rename_i e1 e2
        obtain rfl := Option.some.inj h
        exact ⟨pe_cmpR (cmp_ok c.un _) (ih _ _ e1) (ih _ _ e2) hm', pt_cmpM (cmp_ok c.un _) (ih _ _ e1) (ih _ _ e2) hm', fun q => nomatch q⟩
      · cases h
  · split at h
    · cases h
    · rename_i hm
      have hm' := (Bool.not_eq_true _).mp hm
      split at h
      · rename_i e1 e2 e3
        obtain rfl := Option.some.inj h
        exact ⟨pe_chainM (cmp_ok c.un _) (cmp_ok c.un _) (ih _ _ e1) (ih _ _ e2) (ih _ _ e3) hm', pt_chainM (cmp_ok c.un _) (cmp_ok c.un _) (ih _ _ e1) (ih _ _ e2) (ih _ _ e3) hm', fun q => nomatch q⟩
      · cases h
  · obtain ⟨a1, e1, rfl⟩ := map_some h
    exact .plain (pe_lst (args_ok ih e1).1.pa) rfl rfl
  · obtain ⟨a1, e1, rfl⟩ := map_some h
    exact .plain (pe_tup (args_ok ih e1).1.pa) rfl rfl
  · split at h
    · rename_i hl
      split at h
      · rename_i e1 e2
        obtain rfl := Option.some.inj h
        exact .plain (pe_dctM ih hl.1 hl.2 e1 e2) rfl rfl
      · cases h
    · cases h
  · split at h
    · rename_i e1 e2 e3
      obtain rfl := Option.some.inj h
      exact .plain (pe_slice slc_ok (ih _ _ e1) (po_okM ih e2) (po_okM ih e3)) rfl rfl
    · cases h
  · obtain ⟨a1, e1, rfl⟩ := map_some h
    exact .plain (pe_revL (ih _ _ e1)) rfl rfl
  · split at h
    · rename_i hn
      split at h
      · rename_i e1 e2
        obtain rfl := Option.some.inj h
        exact .plain (pe_ix (sub_ok (by have := c.un; omega)) (ih _ _ e1) (ih _ _ e2) (ix_plain hn)) rfl rfl
      · cases h
    · cases h
  · split at h
    · rename_i eg
      split at h
      · rename_i e1 e2 e3
        obtain rfl := Option.some.inj h
        exact .plain (pe_callG c eg (args_ok ih e1) (kws_ok ih e2) e3) rfl rfl
      · cases h
    · rename_i eg
      obtain ⟨hg, hd, hn, hm, hv⟩ := c.get eg
      have z := fun p pos => gB m _ _ _ _ h X W c _ p pos hg hd hn hm hv
      exact .plain (z _ _).1 rfl (z ⟨0, 0, 0, 0⟩ ⟨0, 0, 0, 0⟩).2
    · rename_i eg
      obtain ⟨hg, hd, hn, hm, hv, hb⟩ := c.get eg
      have z := fun p pos => gB m _ _ _ _ h X W c _ p pos hg hd hn hm (by rw [hv, hb _ rfl])
      exact .plain (z _ _).1 rfl (z ⟨0, 0, 0, 0⟩ ⟨0, 0, 0, 0⟩).2
    · rename_i eg
      split at h
      · split at h
        · rename_i hl
          split at h
          · rename_i e1 e2
            obtain rfl := Option.some.inj h
            have hz : (sizeLine : Nat) = 16777216 := sizeLine_eq
            exact .plain (pe_isAT c eg (ih _ _ e1) (noStar_of e1) e2 (by rw [tys_len e2]; omega)) rfl rfl
          · cases h
        · cases h
      · split at h
        · rename_i e1 e2
          obtain rfl := Option.some.inj h
          exact .plain (pe_isA1 c eg (ih _ _ e1) (noStar_of e1) e2) rfl rfl
        · cases h
      · cases h
    · cases h
  · split at h
    · rename_i hc
      simp only [Bool.and_eq_true] at hc
      obtain ⟨h1, h2⟩ := hc
      split at h
      · rename_i h3
        split at h
        · rename_i e1 e2
          obtain rfl := Option.some.inj h
          subst h3
          exact .plain (pe_joindM (ih _ _ e1) (ih _ _ e2) rfl h1 h2) rfl rfl
        · cases h
      · split at h
        · rename_i e1 e2 e3
          obtain rfl := Option.some.inj h
          have z := args_ok ih e3
          exact .plain (pe_mtM e1 (ih _ _ e2) z.1 z.2.1 h1 h2 (by show 1 < 29; decide)) rfl rfl
        · cases h
    · cases h
  · split at h
    · rename_i hc
      simp only [Bool.and_eq_true] at hc
      split at h
      · rename_i e1 e2
        obtain rfl := Option.some.inj h
        exact .plain (pe_mt0M e1 (ih _ _ e2) hc.1 hc.2) rfl rfl
      · cases h
    · cases h
  · split at h
    · rename_i hc
      simp only [Bool.and_eq_true, decide_eq_true_eq] at hc
      obtain ⟨⟨h1, h2⟩, h3⟩ := hc
      split at h
      · rename_i e1 e2 e3
        obtain rfl := Option.some.inj h
        have z := args_ok ih e3
        exact .plain (pe_mtM e1 (ih _ _ e2) z.1 z.2.1 h1 h2 h3) rfl rfl
      · cases h
    · cases h
  · split at h
    · rename_i hc
      split at h
      · rename_i e1 e2 e3 e4
        obtain rfl := Option.some.inj h
        have z := lcOk gE gG gI c hc e1 e2 e3 e4
        exact wrap_pe (pe_lc c.calm (by rw [c.N]; exact c.nd) z.hi z.ok z.hg z.ht z.he z.hs) rfl rfl
      · cases h
    · cases h
  · split at h
    · rename_i hc
      split at h
      · rename_i e1 e2 e3 e4 e5
        obtain rfl := Option.some.inj h
        have z := lcOk gE gG gI c hc e1 e2 e3 e4
        have z2 := lcOk gE gG gI c hc e1 e2 e3 e5
        exact wrap_pe (a := .dc _ _ _ _ _ _) (pe_dc c.calm (by rw [c.N]; exact c.nd) z.hi z.ok z.hg z.ht z.he z2.he z.hs) rfl rfl
      · cases h
    · cases h
  · cases h

theorem goodB {n : Nat} (gE : GoodE n) : GoodB (n + 1) := by
  intro m b as ks a h X W c x p pos hg hd hn hm hv
  have ih : ∀ e a, compE n m e = some a → PE X e (wE X.K W a) := fun e a h => (gE m e a h X W c).pe
  unfold compB at h
  split at h
  · obtain ⟨a1, e1, rfl⟩ := map_some h
    exact ⟨pe_bidM c hg hd hn hm hv (ih _ _ e1) rfl, rfl⟩
  · split at h
    · rename_i eg
      obtain ⟨hg2, hd2, hn2, hm2, hv2⟩ := c.get eg
      split at h
      · rename_i hs
        obtain ⟨a1, e1, rfl⟩ := map_some h
        exact ⟨pe_sortSet c.calm hg hm hv hn hd hg2 hm2 hv2 hn2 hd2 (ih _ _ e1) hs, rfl⟩
      · cases h
    · obtain ⟨a1, e1, rfl⟩ := map_some h
      have z := args_ok ih e1
      exact ⟨pe_biM c hg hd hn hm hv z.1 z.2.1, rfl⟩
  · obtain ⟨a1, e1, rfl⟩ := map_some h
    have z := args_ok ih e1
    exact ⟨pe_biM c hg hd hn hm hv z.1 z.2.1, rfl⟩
  · cases h
theorem goodG {n : Nat} (gE : GoodE n) (gG : GoodG n) : GoodG (n + 1) := by
  intro m e a h X W c
  have ih : ∀ e a, compE n m e = some a → PE X e (wE X.K W a) := fun e a h => (gE m e a h X W c).pe
  unfold compG at h
  split at h
  · split at h
    · rename_i hc
      rw [Bool.and_eq_true] at hc
      obtain ⟨i, hi, rfl⟩ := map_some h
      have hs := hc.1
      unfold Cm.stor at hs
      split at hs
      · rename_i hl
        rw [← c.sc] at hl
        exact pg_name (by rw [c.N]; exact c.nd) (c.slot hi) (.inl hl) (.inr hl)
      · rename_i hl
        rw [← c.sc] at hl
        exact pg_name (by rw [c.N]; exact c.nd) (c.slot hi) (.inr hl) (.inl (by rw [c.fn]; exact hs))
      · cases hs
    · cases h
  · rename_i o i p
    split at h
    · rename_i hn
      split at h
      · rename_i e1 e2
        obtain rfl := Option.some.inj h
        exact pg_sub (ih _ _ e1) (ih _ _ e2) (set_ok (by have := c.un; omega)) (fun v => by cases i <;> first | rfl | cases hn)
      · cases h
    · cases h
  · obtain ⟨a1, e1, rfl⟩ := map_some h
    exact pg_tupM (fun e a h => gG m e a h X W c) c.calm e1
  · cases h
theorem iv_any {X : Cx} {W : WX} {tg e : Expr} {a : E} (h : PE X e (wE X.K W a)) (hs : match a with | .v _ => True | .c _ => True | .call _ _ _ _ => True | .lst _ => True | .tup _ => True | _ => False) : PI X tg e (wI X.K W a) := by
  have z := pi_val (tg := tg) h
  cases a with
  | v i =>
    refine ⟨fun pins s σ H R I hw => z.run pins s σ H R I ?_⟩
    show (match σ[i]? with | some (some x) => iVal X.K x H R | _ => False)
    exact hw
  | c v => exact z
  | call sp as ks ar => exact z
  | lst as => exact z
  | tup as => exact z
  | _ => exact hs.elim
theorem goodI {n : Nat} (gE : GoodE n) : GoodI (n + 1) := by
  intro m tg e a h X W c
  have ih : ∀ e a, compE n m e = some a → PE X e (wE X.K W a) := fun e a h => (gE m e a h X W c).pe
  unfold compI at h
  split at h
  · obtain ⟨a1, e1, rfl⟩ := map_some h
    exact pi_keys (ih _ _ e1)
  split at h
  · split at h
    · rename_i hc
      rw [Bool.and_eq_true] at hc
      split at h
      · rename_i hnm
        subst hnm
        split at h
        · obtain ⟨a1, e1, rfl⟩ := map_some h
          exact pi_items (ih _ _ e1) (base_S hc.1) hc.2
        · obtain ⟨a1, e1, rfl⟩ := map_some h
          exact pi_itemsN (ih _ _ e1) (base_S hc.1) hc.2
        · cases h
      · split at h
        · rename_i hnm
          subst hnm
          obtain ⟨a1, e1, rfl⟩ := map_some h
          exact pi_keysM (ih _ _ e1) (base_S hc.1) hc.2
        · split at h
          · rename_i hnm
            subst hnm
            obtain ⟨a1, e1, rfl⟩ := map_some h
            exact pi_values (ih _ _ e1) (base_S hc.1) hc.2
          · split at h
            · cases h
            · obtain ⟨a1, e1, rfl⟩ := map_some h
              exact pi_val (ih _ _ e1)
    · cases h
  · split at h
    · rename_i eg
      obtain ⟨hg, hd, hn, rfl, hm⟩ := c.get eg
      split at h
      · obtain ⟨a1, e1, rfl⟩ := map_some h
        have z := args_ok ih e1
        have zs := z.2.1
        simp only [List.all_cons, List.all_nil, Bool.and_true] at zs
        exact pi_range1 hg hm z.1.pa (star_cons zs)
      · obtain ⟨a1, e1, rfl⟩ := map_some h
        have z := args_ok ih e1
        have zs := z.2.1
        simp only [List.all_cons, List.all_nil, Bool.and_true, Bool.and_eq_true] at zs
        exact pi_range2 hg hm z.1.pa (by rw [star_cons zs.1, star_cons zs.2]; rfl) (star_cons zs.2)
      · obtain ⟨a1, e1, rfl⟩ := map_some h
        have z := args_ok ih e1
        have zs := z.2.1
        rw [List.all_cons, Bool.and_eq_true] at zs
        exact pi_range3 hg hm z.1.pa (star_cons zs.1) (star_any zs.2)
      · cases h
    · rename_i eg
      obtain ⟨hg, hd, hn, rfl, hm⟩ := c.get eg
      split at h
      · split at h
        · rename_i hs
          obtain ⟨a1, e1, rfl⟩ := map_some h
          exact pi_enumV hg hm (ih _ _ e1) (star_cons hs)
        · cases h
      · cases h
    · rename_i eg
      have z := ih _ _ h
      refine iv_any z ?_
      cases n with
      | zero => simp only [compE] at h; cases h
      | succ k =>
        simp only [compE, compO, eg] at h
        split at h
        · obtain rfl := Option.some.inj h; trivial
        · cases h
    · obtain ⟨a1, e1, rfl⟩ := map_some h
      exact pi_val (ih _ _ e1)
    · obtain ⟨a1, e1, rfl⟩ := map_some h
      exact pi_val (ih _ _ e1)
    · cases h
  · refine iv_any (ih _ _ h) ?_
    cases n with
    | zero => simp only [compE] at h; cases h
    | succ k =>
      simp only [compE, compO, Cm.name] at h
      split at h
      · cases h
      · split at h
        · obtain ⟨i, _, rfl⟩ := map_some h; trivial
        · split at h
          · obtain rfl := Option.some.inj h; trivial
          · cases h
  · obtain ⟨a1, e1, rfl⟩ := map_some h
    exact pi_val (ih _ _ e1)
  · obtain rfl := Option.some.inj h
    exact iv_any (a := .c (.str _)) pe_str trivial
  · obtain ⟨a1, e1, rfl⟩ := map_some h
    exact iv_any (a := .lst a1) (pe_lst (args_ok ih e1).1.pa) trivial
  · obtain ⟨a1, e1, rfl⟩ := map_some h
    exact iv_any (a := .tup a1) (pe_tup (args_ok ih e1).1.pa) trivial
  · obtain ⟨a1, e1, rfl⟩ := map_some h
    exact pi_val (ih _ _ e1)
  · obtain ⟨a1, e1, rfl⟩ := map_some h
    exact pi_val (ih _ _ e1)
  · obtain ⟨a1, e1, rfl⟩ := map_some h
    exact pi_val (ih _ _ e1)
  · cases h
theorem good : ∀ n, GoodE n ∧ GoodB n ∧ GoodG n ∧ GoodI n
  | 0 => ⟨fun m e a h => (nomatch (show (none : Option E) = some a from h)), fun m b as ks a h => (nomatch (show (none : Option E) = some a from h)), fun m e a h => (nomatch (show (none : Option E) = some a from h)), fun m tg e a h => (nomatch (show (none : Option E) = some a from h))⟩
  | n + 1 => let ⟨a, b, c, d⟩ := good n; ⟨goodE a b c d, goodB a, goodG a c, goodI a⟩
end CW

namespace CW
open PySem PySem.Spec PyProof.Rows L2
/-! ## 9. Statements -/
section
variable {X : Cx} {m : Cm} {W : WX}
theorem goodE' (n : Nat) : GoodE n := (good n).1
theorem goodG' (n : Nat) : GoodG n := (good n).2.2.1
theorem goodI' (n : Nat) : GoodI n := (good n).2.2.2
theorem lc_inv {n : Nat} {elt : Expr} {gens : List Comprehension} {scope : Scope} {pos : Pos} {a : E} (h : compE (n + 1) m (.ListComp elt gens scope pos) = some a) : ∃ tg iter ifs e t it cs, gens = [⟨tg, iter, ifs, 0⟩] ∧ a = m.wrap iter (.lc e t it cs ((ownOf m.N scope).map (·.2))) ∧
    (notSet iter && blkC m.N m.sc scope (ownOf m.N scope) && decide (ifs.length ≤ 1)) = true ∧ compI n m tg iter = some it ∧ compG n (m.blk scope) tg = some t ∧ mapE (compE n (m.blk scope)) ifs = some cs ∧ compE n (m.blk scope) elt = some e := by
  simp only [compE, compO] at h
  split at h
  all_goals first | (rename_i q; cases q; done) | (cases h; done) | skip
  rename_i q
  cases q
  split at h
  · rename_i hc
    split at h
    · rename_i e1 e2 e3 e4
      obtain rfl := Option.some.inj h
      exact ⟨_, _, _, _, _, _, _, rfl, rfl, hc, e1, e2, e3, e4⟩
    · cases h
  · cases h
theorem dc_inv {n : Nat} {ke ve : Expr} {gens : List Comprehension} {scope : Scope} {pos : Pos} {a : E} (h : compE (n + 1) m (.DictComp ke ve gens scope pos) = some a) : ∃ tg iter ifs k v t it cs, gens = [⟨tg, iter, ifs, 0⟩] ∧ a = m.wrap iter (.dc k v t it cs ((ownOf m.N scope).map (·.2))) ∧
    (notSet iter && blkC m.N m.sc scope (ownOf m.N scope) && decide (ifs.length ≤ 1)) = true ∧ compI n m tg iter = some it ∧ compG n (m.blk scope) tg = some t ∧ mapE (compE n (m.blk scope)) ifs = some cs ∧ compE n (m.blk scope) ke = some k ∧ compE n (m.blk scope) ve = some v := by
  simp only [compE, compO] at h
  split at h
  all_goals first | (rename_i q; cases q; done) | (cases h; done) | skip
  rename_i q
  cases q
  split at h
  · rename_i hc
    split at h
    · rename_i e1 e2 e3 e4 e5
      obtain rfl := Option.some.inj h
      exact ⟨_, _, _, _, _, _, _, _, rfl, rfl, hc, e1, e2, e3, e4, e5⟩
    · cases h
  · cases h
theorem wrap_set {st : Stmt} {i : Nat} {it : Expr} {a : E} (h : PS X st (tAsg (wE X.K W a) (gName i))) : PS X st (tAsg (wE X.K W (m.wrap it a)) (gName i)) := by
  unfold Cm.wrap
  split
  · exact ⟨fun pins s σ H D I hw => (ps_lock h).run pins s σ H D I hw⟩
  · exact h
/-- name = a comprehension: stored within its block, or behind it -/
theorem ps_lcM (c : Cnd X m W) {n i : Nat} {x : Str} {px spos : Pos} {e : Expr} {a : E} (hs : m.stor x = true) (hi : ixOf x m.N = some i) (he : compE n m e = some a) : PS X (.Assign [.Name x px] e spos) (tAsg (wE X.K W a) (gName i)) := by
  have nd : X.N.Nodup := by rw [c.N]; exact c.nd
  have ld : Loc X.env.scope x ∧ (X.fn x = true ∨ X.env.scope.names.lookup x = some .local) := by
    unfold Cm.stor at hs
    split at hs
    · rename_i hl
      rw [← c.sc] at hl
      exact ⟨.inl hl, .inr hl⟩
    · rename_i hl
      rw [← c.sc] at hl
      exact ⟨.inr hl, .inl (by rw [c.fn]; exact hs)⟩
    · cases hs
  have pe := (goodE' n m e a he X W c).pe
  by_cases hc : isComp e = false
  · exact ps_set nd (c.slot hi) ld.1 pe (swaps_no hc) ld.2
  · cases n with
    | zero => simp only [compE] at he; cases he
    | succ n =>
      cases e with
      | ListComp elt gens scope pos =>
        have hb : swapsWith (.ListComp elt gens scope pos) (some (.Name x px)) spos.line X.env = pure (X.env.blockKind == .function && X.env.kindOf x == some .local && px.line == (Expr.ListComp elt gens scope pos).pos.line && !(scope.names.any fun (n, k) => n == x && (k == .local || k == .cell))) := rfl
        generalize hz : (X.env.blockKind == .function && X.env.kindOf x == some .local && px.line == (Expr.ListComp elt gens scope pos).pos.line && !(scope.names.any fun (n, k) => n == x && (k == .local || k == .cell))) = b at hb
        cases b with
        | false => exact ps_set nd (c.slot hi) ld.1 pe hb ld.2
        | true =>
          have hl : X.env.scope.names.lookup x = some .local := by
            simp only [Bool.and_eq_true, beq_iff_eq] at hz
            exact hz.1.1.2
          obtain ⟨tg, iter, ifs, e1, t1, it1, cs1, rfl, rfl, h1, h2, h3, h4, h5⟩ := lc_inv he
          have z := lcOk (goodE' n) (goodG' n) (goodI' n) c h1 h2 h3 h4 h5
          exact wrap_set (ps_setLc c.calm nd (c.slot hi) hl hb z.hi z.ok z.hg z.ht z.he z.hs)
      | DictComp ke ve gens scope pos =>
        have hb : swapsWith (.DictComp ke ve gens scope pos) (some (.Name x px)) spos.line X.env = pure (X.env.blockKind == .function && X.env.kindOf x == some .local && px.line == (Expr.DictComp ke ve gens scope pos).pos.line && !(scope.names.any fun (n, k) => n == x && (k == .local || k == .cell))) := rfl
        generalize hz : (X.env.blockKind == .function && X.env.kindOf x == some .local && px.line == (Expr.DictComp ke ve gens scope pos).pos.line && !(scope.names.any fun (n, k) => n == x && (k == .local || k == .cell))) = b at hb
        cases b with
        | false => exact ps_set nd (c.slot hi) ld.1 pe hb ld.2
        | true =>
          have hl : X.env.scope.names.lookup x = some .local := by
            simp only [Bool.and_eq_true, beq_iff_eq] at hz
            exact hz.1.1.2
          obtain ⟨tg, iter, ifs, k1, v1, t1, it1, cs1, rfl, rfl, h1, h2, h3, h4, h5, h6⟩ := dc_inv he
          have z := lcOk (goodE' n) (goodG' n) (goodI' n) c h1 h2 h3 h4 h5
          have z2 := lcOk (goodE' n) (goodG' n) (goodI' n) c h1 h2 h3 h4 h6
          exact wrap_set (a := .dc _ _ _ _ _ _) (ps_setDc c.calm nd (c.slot hi) hl hb z.hi z.ok z.hg z.ht z.he z2.he z.hs)
      | SetComp a b c d => simp only [compE, compO] at he; cases he
      | _ => exact absurd rfl hc

theorem sw_attr (e o : Expr) (f : Str) (p : Pos) (l : Nat) (env : Env) : swapsWith e (some (.Attribute o f p)) l env = pure false := by
  cases e <;> rfl
theorem sole_no {t e : Expr} {l : Nat} {env : Env} (h : isComp e = false) : swapsWithSole [t] e l env = pure false := swaps_no h
theorem sw_none {ts : List Expr} {k : Nat} {p : Pos} {e : Expr} {env : Env} (h : isTup e = false) : swappedStores [.Tuple ts k p] e env = pure none := by
  cases e <;> first | rfl | cases h
theorem sw_pure {ts vs : List Expr} {k k2 : Nat} {p p2 : Pos} {env : Env} {r : Option (List Str)} (h : swPure env.scope ts vs = some r) : swappedStores [.Tuple ts k p] (.Tuple vs k2 p2) env = pure r := by
  unfold swPure at h
  split at h
  · rename_i e
    cases h
    exact if_pos e
  · rename_i e
    refine Eq.trans (if_neg e) ?_
    split at h
    · rename_i e2
      cases h
      exact if_pos e2
    · rename_i e2
      refine Eq.trans (if_neg e2) ?_
      dsimp only at h
      split at h
      · rename_i e3
        cases h
        exact if_pos e3
      · rename_i e3
        refine Eq.trans (if_neg e3) ?_
        split at h
        · rename_i e4
          cases h
          exact if_pos e4
        · rename_i e4
          refine Eq.trans (if_neg e4) ?_
          split at h
          · cases h
          · rename_i e5
            cases h
            exact if_neg e5
theorem Cnd.loc (c : Cnd X m W) {x : Str} (h : m.loc x = true) : X.env.scope.names.lookup x = some .local := by
  rw [c.sc]
  unfold Cm.loc at h
  split at h
  · assumption
  · cases h
theorem goodS : ∀ n : Nat, (∀ (m : Cm) (st : Stmt) (a : S), compS n m st = some a → ∀ (X : Cx) (W : WX), Cnd X m W → PS X st (wS X.K W a)) ∧ (∀ (m : Cm) (ss : List Stmt) (a : S), compSs n m ss = some a → ∀ (X : Cx) (W : WX), Cnd X m W → PSs X ss (wS X.K W a))
  | 0 => ⟨fun m st a h => (nomatch (show (none : Option S) = some a from h)), fun m ss a h => (nomatch (show (none : Option S) = some a from h))⟩
  | n + 1 => by
    obtain ⟨g1, g2⟩ := goodS n
    refine ⟨fun m st a h X W c => ?_, fun m ss a h X W c => ?_⟩
    · have ih : ∀ e a, compE n m e = some a → PE X e (wE X.K W a) := fun e a h => (goodE' n m e a h X W c).pe
      unfold compS at h
      split at h
      · obtain rfl := Option.some.inj h
        exact ps_doc
      · split at h
        · cases h
        · rename_i hc
          obtain ⟨a1, e1, rfl⟩ := map_some h
          exact ps_expr (ih _ _ e1) (swaps_no ((Bool.not_eq_true _).mp hc))
      · obtain ⟨a1, e1, rfl⟩ := map_some h
        exact ps_ret (ih _ _ e1)
      · obtain rfl := Option.some.inj h
        exact ps_retN
      · obtain rfl := Option.some.inj h
        exact ps_pass
      · obtain rfl := Option.some.inj h
        exact ps_break
      · obtain rfl := Option.some.inj h
        exact ps_continue
      · split at h
        · rename_i hs
          rw [Bool.and_eq_true] at hs
          split at h
          · rename_i e1 e2
            obtain rfl := Option.some.inj h
            exact ps_lcM c hs.1 e1 e2
          · cases h
        · cases h
      · split at h
        · rename_i e1 e2
          obtain rfl := Option.some.inj h
          exact ps_fld (ih _ _ e1) (ih _ _ e2) (sw_attr ..)
        · cases h
      · split at h
        · cases h
        · rename_i hc
          split at h
          · rename_i e1 e2
            obtain rfl := Option.some.inj h
            exact ps_asg (ih _ _ e2) (goodG' n _ _ _ e1 X W c) (sole_no ((Bool.not_eq_true _).mp hc)) rfl rfl
          · cases h
      · split at h
        · rename_i hw
          rw [← c.sc] at hw
          split at h
          · rename_i e1 e2
            obtain rfl := Option.some.inj h
            exact ps_asg (ih _ _ e2) (goodG' n _ _ _ e1 X W c) (sole_no rfl) (sw_pure hw) rfl
          · cases h
        · rename_i hw
          rw [← c.sc] at hw
          have nd : X.N.Nodup := by rw [c.N]; exact c.nd
          split at h
          · rename_i e1
            split at h
            · rename_i hk
              simp only [Bool.and_eq_true, decide_eq_true_eq] at hk
              obtain ⟨⟨k1, k2⟩, rfl⟩ := hk
              split at h
              · rename_i i1 i2
                split at h
                · rename_i hne
                  obtain rfl := Option.some.inj h
                  exact ps_par c.calm nd (c.slot i1) (c.slot i2) hne (c.loc k1) (c.loc k2) (args_ok ih e1).1.pa (sw_pure hw) (sole_no rfl)
                · cases h
              · cases h
            · cases h
          · rename_i e1
            split at h
            · rename_i hk
              simp only [Bool.and_eq_true, decide_eq_true_eq] at hk
              obtain ⟨⟨⟨k1, k2⟩, k3⟩, rfl⟩ := hk
              split at h
              · rename_i i1 i2 i3
                split at h
                · rename_i hne
                  obtain rfl := Option.some.inj h
                  exact ps_par3 c.calm nd (c.slot i1) (c.slot i2) (c.slot i3) hne.1 hne.2.1 hne.2.2 (c.loc k1) (c.loc k2) (c.loc k3) (args_ok ih e1).1.pa (sw_pure hw) (sole_no rfl)
                · cases h
              · cases h
            · cases h
          · cases h
        · cases h
      · split at h
        · cases h
        · rename_i hc
          have hc := (Bool.not_eq_true _).mp hc
          rw [Bool.or_eq_false_iff] at hc
          split at h
          · rename_i e1 e2
            obtain rfl := Option.some.inj h
            exact ps_asg (ih _ _ e2) (goodG' n _ _ _ e1 X W c) (sole_no hc.1) (sw_none hc.2) rfl
          · cases h
      · split at h
        · rename_i e1 e2 e3
          obtain rfl := Option.some.inj h
          exact ps_if (goodE' n _ _ _ e1 X W c).pt (g2 _ _ _ e2 X W c) (g2 _ _ _ e3 X W c)
        · cases h
      · rename_i tg it b p
        split at h
        · rename_i hs
          split at h
          · rename_i e1 e2 e3
            obtain rfl := Option.some.inj h
            have z : PS X (.For tg it b [] p) (wS X.K W (.for_ _ _ _)) := ps_for c.po c.calm (goodI' n _ _ _ _ e2 X W c) (goodG' n _ _ _ e1 X W c) (g2 _ _ _ e3 X W c) (folded_no (by cases it <;> first | rfl | cases hs))
            unfold Cm.wrapS
            split
            · exact ps_lock z
            · exact z
          · cases h
        · cases h
      · split at h
        · rename_i e1 e2
          obtain rfl := Option.some.inj h
          exact ps_while c.po (goodE' n _ _ _ e1 X W c).pt (g2 _ _ _ e2 X W c)
        · cases h
      · cases h
    · unfold compSs at h
      split at h
      · obtain rfl := Option.some.inj h
        exact pss_nil
      · split at h
        · rename_i e1 e2
          obtain rfl := Option.some.inj h
          exact pss_cons (g1 _ _ _ e1 X W c) (g2 _ _ _ e2 X W c)
        · rename_i e2
          obtain rfl := Option.some.inj h
          exact pss_cons ps_never (g2 _ _ _ e2 X W c)
        · cases h
end
end CW

namespace CW
open PySem PySem.Spec PyProof.Rows L2
/-! ## 10. A def keeps its promise -/
/-- a class's defs, wherever one stands -/
def MiF (P : Program) (w : World) (K : PySem.W.Frag) (mg : Str → Option Value) (base : Heap) (k : Nat) (f : Addr) (mi : MI) : Prop := ∃ fd j, FnG P w K mg base j f fd mi.ps mi.sp ∧ j + 1 ≤ k ∧ ∀ t ∈ mi.sh, KB K fd mi.ps t.1 t.2.1 t.2.2
structure CiF (P : Program) (w : World) (K : PySem.W.Frag) (mg : Str → Option Value) (base : Heap) (k : Nat) (ci : CI) : Prop where
  c : Cls K ci.C
  sq : PySem.W.noSeq K ci.C = true
  sf : PySem.W.selfFirst K ci.C = true
  ini : ∀ mi, ci.ini = some mi → ∃ f, Mk K ci.C f ∧ MiF P w K mg base k f mi
  ms : ∀ p ∈ ci.ms, ∃ f, Meth K ci.C p.1 f ∧ PySem.W.fnIn K f = true ∧ MiF P w K mg base k f p.2
  prs : ∀ p ∈ ci.prs, ∃ pr g, PropOf K ci.C p.1 pr g ∧ MiF P w K mg base k g ⟨["self"], [(1, [], [.p 0])], p.2⟩
  cs : ∀ p ∈ ci.cs, ∃ u, Con K ci.C p.1 p.2 u
  fl : ∀ f ∈ ci.fl, NoAttr K ci.C f
theorem MiF.up {P : Program} {w : World} {K : PySem.W.Frag} {mg : Str → Option Value} {base : Heap} {j k : Nat} (h : j ≤ k) {f : Addr} {mi : MI} : MiF P w K mg base j f mi → MiF P w K mg base k f mi
  | ⟨fd, i, F, hl, hs⟩ => ⟨fd, i, F, Nat.le_trans hl h, hs⟩
theorem CiF.up {P : Program} {w : World} {K : PySem.W.Frag} {mg : Str → Option Value} {base : Heap} {j k : Nat} (h : j ≤ k) {ci : CI} (z : CiF P w K mg base j ci) : CiF P w K mg base k ci :=
  ⟨z.c, z.sq, z.sf, fun mi e => let ⟨f, a, b⟩ := z.ini mi e; ⟨f, a, b.up h⟩, fun p e => let ⟨f, a, b, d⟩ := z.ms p e; ⟨f, a, b, d.up h⟩, fun p e => let ⟨f, g, a, b⟩ := z.prs p e; ⟨f, g, a, b.up h⟩, z.cs, z.fl⟩
theorem MiF.at {X : Cx} {k : Nat} (hr : Room k X.A) {f : Addr} {mi : MI} : MiF X.prog X.w X.K X.mg X.base k f mi → MiOk X f mi
  | ⟨fd, i, F, hl, hs⟩ => ⟨fd, i, F, hr.mono hl, hs⟩
theorem CiF.at {X : Cx} {k : Nat} (hr : Room k X.A) {ci : CI} (z : CiF X.prog X.w X.K X.mg X.base k ci) : CiOk X ci :=
  ⟨z.c, z.sq, z.sf, fun mi e => let ⟨f, a, b⟩ := z.ini mi e; ⟨f, a, b.at hr⟩, fun p e => let ⟨f, a, b, d⟩ := z.ms p e; ⟨f, a, b, d.at hr⟩, fun p e => let ⟨f, g, a, b⟩ := z.prs p e; ⟨f, g, a, b.at hr⟩, z.cs, z.fl⟩
/-- of a name of the module, wherever one stands -/
def GvF (P : Program) (w : World) (K : PySem.W.Frag) (mg : Str → Option Value) (base : Heap) (k : Nat) (x : Str) : Gv → Prop
  | .fn ps sh sp => ∃ f fd, mg x = some (.ref f) ∧ PySem.W.keepIn K (.ref f) = true ∧ FnG P w K mg base k f fd ps sp ∧ ∀ t ∈ sh, KB K fd ps t.1 t.2.1 t.2.2
  | .con v => ∃ u, mg x = some u ∧ RelV v u
  | .bi b => mg x = none ∧ bootBuiltins x = some b.val
  | .ty t ob => mg x = none ∧ bootBuiltins x = some (.type t.nm) ∧ ∀ b, ob = some b → b.val = .type t.nm
  | .isi => mg x = none ∧ bootBuiltins x = some (.builtin "isinstance")
  | .rng => x = "range" ∧ mg "range" = none
  | .enum => x = "enumerate" ∧ mg "enumerate" = none
  | .setT => mg x = none ∧ bootBuiltins x = some (.type "set")
  | .cls ci => mg x = some (.ref ci.C) ∧ CiF P w K mg base k ci
section
variable {P : Program} {w : World} {K : PySem.W.Frag} {mg : Str → Option Value} {base : Heap}
theorem GvF.up {j k : Nat} (h : j ≤ k) {x : Str} : ∀ {g : Gv}, GvF P w K mg base j x g → GvF P w K mg base k x g
  | .fn _ _ _, ⟨f, fd, a, b, F, d⟩ => ⟨f, fd, a, b, F.up h, d⟩
  | .con _, z => z
  | .bi _, z => z
  | .ty _ _, z => z
  | .isi, z => z
  | .rng, z => z
  | .enum, z => z
  | .setT, z => z
  | .cls _, ⟨a, z⟩ => ⟨a, z.up h⟩
theorem GvF.at {k : Nat} {X : Cx} (h1 : X.prog = P) (h2 : X.w = w) (h3 : X.K = K) (h4 : X.mg = mg) (h5 : X.base = base) (hr : Room k X.A) {x : Str} : ∀ {g : Gv}, GvF P w K mg base k x g → GvOk X x g := by
  subst h1 h2 h3 h4 h5
  intro g z
  cases g with
  | fn ps sh sp => obtain ⟨f, fd, a, b, F, d⟩ := z; exact ⟨f, fd, k, a, b, F, hr, d⟩
  | cls ci => exact ⟨z.1, z.2.at hr⟩
  | _ => exact z
/-- THE RULE for a def of the text -/
theorem fn_G {k n : Nat} {f : Addr} {name qual : Str} {params : Arguments} {body : List Stmt} {scope : Scope} {dV kV doc pm cdv ct oc : Value} {an od : Option Addr} {osl : Array (Option Value)} {N ps : List Str} {sp : Sp} {tb : List (Str × Gv)} {hk : List (Nat × Nat)} {cl : List CI} {ow : List (Nat × Nat × Nat)} {a : S}
    (lk : K.lookup f = some ⟨oc, od, .func (PySem.W.fnOf name qual params body scope dV kV doc pm an cdv ct), osl⟩) (hcd : PySem.W.codeIn K cdv qual = true) (sc : FnScope N ps scope) (hg : ∀ p ∈ tb, GvF P w K mg base k p.1 p.2) (hcl : ∀ ci ∈ cl, CiF P w K mg base k ci)
    (hc : compSs n ⟨N, scope, fun _ => true, tb, hk, cl, ow⟩ body = some a)
    (hs : ∀ vs H Q R, sp vs H Q R → vs.length = ps.length ∧ wS K (fun cls d _ H' => R cls d H') a { nx := fun _ H' => Q .non H', rt := Q } (start N vs) H) :
    FnG P w K mg base (k + 1) f (PySem.W.fnOf name qual params body scope dV kV doc pm an cdv ct) ps sp := by
  refine ⟨fun vs H Q R z => (hs vs H Q R z).1, fun A outer s H args us vs Q R hr hgd e0 hb rv z => ?_⟩
  obtain ⟨hl, rd⟩ := hs vs H Q R z
  have kin : K.In s.heap := e0.mod.kin.keeps fun b o e => (e0.bs b o e).1
  have lim : s.heap.NoLimit := e0.mod.nolimit.keeps fun b o e => (e0.bs b o e).1
  have kinds : ∀ y ∈ ps.zip us, scope.names.lookup y.1 = some .local ∨ (scope.names.lookup y.1 = some .cell ∧ ((cellsFrom (s.heap.objs.size + 1) scope.names []).lookup y.1).isSome = true) := fun ⟨x, v⟩ hy => by
    rcases sc.par x (List.of_mem_zip hy).1 with q | q
    · exact .inl q
    · exact .inr ⟨q, PySem.W.cellsFrom_some _ _ _ (.inl q)⟩
  refine codeAny_call_function hr.depth (kin _ _ lk) rfl sc.co sc.gen rfl (PySem.W.codeRec_of kin hcd) (hb _ _ _ _ ?_)
  refine wpAny_newFunctionEnv_cells sc.kind kinds fun env he s1 x => ?_
  subst he
  refine ⟨lim.keeps x.toInCall.keep, codeAny_func ?_⟩
  have I : Inv (cxOf (L2.CX P w) P w K mg base N qual scope f cdv A outer s H R) [] (start N vs) H s1 := inv_start sc hr.hd e0 hl rv x
  have hr' : Room k (A.deeper (envOfC qual scope s.heap.objs.size f cdv)) := hr.deeper _
  have c : Cnd (cxOf (L2.CX P w) P w K mg base N qual scope f cdv A outer s H R) ⟨N, scope, fun _ => true, tb, hk, cl, ow⟩ (fun cls d _ H' => R cls d H') :=
    { N := rfl, nd := sc.nd, sc := rfl, fn := rfl, calm := rfl, gd := hgd, un := by { have := hr'.un; show (A.deeper (envOfC qual scope s.heap.objs.size f cdv)).units + 65 < cLine; omega }, tk := takes_of rfl rfl rfl rfl, po := passes_of rfl,
      gl := fun p hp => (hg p hp).at rfl rfl rfl rfl rfl hr', cl := fun ci h => CiF.at (k := k) hr' (hcl ci h) }
  have ht := (goodS n).2 _ _ _ hc _ _ c
  refine wpAny_mono (ht.run [] s1 (start N vs) H _ I rd) (fun fl s' q => ?_) fun x s' q => q
  cases fl with
  | ret u => obtain ⟨v, σ', H', J, rx, q⟩ := q; exact ⟨v, H', J.os, J.bare, J.base, J.hok, rx, q⟩
  | next => obtain ⟨σ', H', J, q⟩ := q; exact ⟨.non, H', J.os, J.bare, J.base, J.hok, rfl, q⟩
  | brk => obtain ⟨_, _, _, q⟩ := q; exact False.elim q
  | cont => obtain ⟨_, _, _, q⟩ := q; exact False.elim q
end
end CW

namespace CW
open PySem PySem.Spec PyProof.Rows L2
/-! ## 11. The law's end -/
/-- the script alone is tracked, at a -/
def scriptH (a : Addr) (ob : Obj) (ns : List Int) : Hp := fun b => if b = a then some (.frz ob (.lst (ns.map V.int))) else none
theorem law_G {P : Program} {w : World} {K : PySem.W.Frag} {mg mb : Str → Option Value} {k : Nat} {fa a : Addr} {fd : FuncData} {x : Str} {sp : Sp} {s1 : Shared} {vs : List Value} {ns : List Int}
    (kx : K.In s1.heap) (g1 : s1.heap.Ns mainGlobals mg) (g2 : s1.heap.Ns builtinsNs mb) (g3 : ∀ x : Str, x ≠ "__name__" → mb x = bootBuiltins x) (lim : s1.heap.NoLimit) (hg : s1.gens = #[])
    (ha : s1.heap.get? a = some { cls := .type "list", data := .seq vs.toArray }) (hi : IntsAre vs ns) (hl : ns.length ≤ sizeLine) (hr : Room k callerA)
    (F : ∀ base : Heap, K.In base → base.Ns mainGlobals mg → FnG P w K mg base k fa fd [x] sp) (hb : ∀ (s : Shared) (u : Value), BindsTo s fd ⟨[u], []⟩ [(x, u)])
    (hsp : ∀ H : Hp, Only H → SqL K H a (ns.map V.int) → sp [.ref a] H (fun v _ => v = .bl true) fun _ _ _ => False) :
    codeAny (model P w) callerA (.call (.ref fa) ⟨[.ref a], []⟩) (fun r s' => r = .ok (.ret (.bool true)) ∧ OldK s1.heap s'.heap ∧ s'.os = s1.os ∧ AllBare s'.gens) s1 := by
  have rv := vals_ints hi
  have step : ∀ H : Hp, Only H → SqL K H a (ns.map V.int) → HOk P w H s1.heap → (∀ b, H b ≠ none → b = a) → (H a ≠ none → K.lookup a = none) →
      codeAny (model P w) callerA (.call (.ref fa) ⟨[.ref a], []⟩) (fun r s' => r = .ok (.ret (.bool true)) ∧ OldK s1.heap s'.heap ∧ s'.os = s1.os ∧ AllBare s'.gens) s1 := by
    intro H only sq hok onlyA noK
    have dn : ∀ {b : Addr} {o : Obj} {es : Array DictEntry} {ep : Nat}, s1.heap.get? b = some o → o.data = .dict es ep → H b = none := by
      intro b o es ep q d
      cases z : H b with
      | none => rfl
      | some t =>
        obtain rfl : b = a := onlyA b (by rw [z]; exact fun t => nomatch t)
        rw [ha] at q
        obtain rfl := Option.some.inj q
        exact nomatch d
    have nsk : ∀ {b : Addr} {f : Str → Option Value}, s1.heap.Ns b f → (hidT s1.heap H).Ns b f := fun ⟨o, es, ep, q, d, r⟩ => ⟨o, es, ep, hidT_get q (dn q d), d, r⟩
    have kb : K.In (hidT s1.heap H) := fun b o q => hidT_get (kx b o q) (by
      cases z : H b with
      | none => rfl
      | some t =>
        obtain rfl : b = a := onlyA b (by rw [z]; exact fun t => nomatch t)
        rw [noK (by rw [z]; exact fun t => nomatch t)] at q
        exact nomatch q)
    have md : Mod K mg (hidT s1.heap H) := { kin := kb, glob := nsk g1, blt := ⟨mb, nsk g2, g3⟩, nolimit := (let ⟨c, l1, l2⟩ := lim; ⟨c, nsk l1, l2⟩) }
    have e0 : Env0 P w K mg (hidT s1.heap H) callerA [] s1 H :=
      { frames := rfl, mod := md, bs := fun b o q => of_hidT q, bsz := Nat.le_of_eq (hidT_size _ _), funs := trivial, frf := fun b z => (nomatch (show b ∈ ([] : List Addr) from z)), hok := hok, bare := .of_eq hg }
    have run := (F _ kb (nsk g1)).go callerA [] s1 H ⟨[.ref a], []⟩ [.ref a] [.ref a] _ _ hr rfl e0 (hb s1 (.ref a)) (.cons rfl .nil) (hsp H only sq)
    refine codeAny_mono run fun r s' q => ?_
    cases r with
    | error e =>
      obtain ⟨_, _, _, _, _, _, _, _, _, _, _, _, no⟩ := q
      exact no.elim
    | ok fl =>
      cases fl with
      | ret u =>
        obtain ⟨v, H', eos, bare, un, hok', rx, rfl⟩ := q
        obtain rfl : u = Value.bool true := rx
        refine ⟨rfl, OldK.of_keep fun b o e => ?_, eos, bare⟩
        cases z : H b with
        | none => exact un.keep b o e z (fun t => (nomatch (show b ∈ ([] : List Addr) from t))) (fun t => nomatch t)
        | some t =>
          rcases only b with z2 | ⟨ob, xs, z2⟩
          · rw [z] at z2; exact nomatch z2
          · have o1 := (hok b _ z2).1
            have o2 := (hok' b _ (un.frzs b ob _ z2)).1
            rw [e] at o1
            obtain rfl := Option.some.inj o1
            exact o2
      | next => exact False.elim q
      | brk => exact False.elim q
      | cont => exact False.elim q
  cases hk : K.lookup a with
  | some o =>
    have e := kx a o hk
    rw [ha] at e
    obtain rfl := Option.some.inj e
    refine step (fun _ => none) (fun _ => .inl rfl) (.inr ⟨_, vs.toArray, _, hk, rfl, rfl, rfl, ?_, by simpa using rv⟩) (fun b u z => nomatch z) (fun b z => absurd rfl z) (fun z => absurd rfl z)
    rw [List.size_toArray, hi.length]
    exact hl
  | none =>
    have at_a : ∀ {b : Addr}, b = a → scriptH a { cls := .type "list", data := .seq vs.toArray } ns b = some (.frz { cls := .type "list", data := .seq vs.toArray } (.lst (ns.map V.int))) := fun e => if_pos e
    have off_a : ∀ {b : Addr}, b ≠ a → scriptH a { cls := .type "list", data := .seq vs.toArray } ns b = none := fun e => if_neg e
    refine step (scriptH a { cls := .type "list", data := .seq vs.toArray } ns) (fun b => ?_) (.inl (.inr ⟨_, at_a rfl⟩)) (fun b u z => ?_) (fun b z => Classical.byContradiction fun h => z (off_a h)) fun _ => hk
    · by_cases h : b = a
      · exact .inr ⟨_, _, at_a h⟩
      · exact .inl (off_a h)
    · by_cases h : b = a
      · rw [at_a h] at z
        obtain rfl := Option.some.inj z
        subst h
        exact ⟨ha, by rw [List.length_map]; exact hl, vs, _, rv, ha⟩
      · rw [off_a h] at z
        exact nomatch z
/-- the goal behind the head, from the law's promise -/
theorem walk_G {l : PySem.W.OpenLaw} {n k : Nat} {q : Program} {loose : List Str} {XP : (Str → Option Value) → Heap → Prop} {YP : World → Heap → Prop} {d : DefRec} {K : Params → PySem.W.Frag} {sp : PySem.W.Frag → Sp} {x : Str}
    (hn : l.most = some n) (hn2 : n ≤ sizeLine) (hdf : d.params.defaults = []) (hr : Room k callerA) (hY : ∀ (w : World) (h : Heap), YP w h → (K w.params).In h)
    (F : ∀ (w : World) (mg : Str → Option Value) (fa : Addr) (h : Heap), (K w.params).In h → h.Ns mainGlobals mg → mg d.name = some (.ref fa) →
      ∃ fd : FuncData, (∀ (s : Shared) (u : Value), BindsTo s fd ⟨[u], []⟩ [(x, u)]) ∧ ∀ base : Heap, (K w.params).In base → base.Ns mainGlobals mg → FnG l.prog w (K w.params) mg base k fa fd [x] (sp (K w.params)))
    (hsp : ∀ (K : PySem.W.Frag) (H : Hp) (a : Addr) (ns : List Int), ns.length ≤ n → Only H → SqL K H a (ns.map V.int) → sp K [.ref a] H (fun v _ => v = .bl true) fun _ _ _ => False) :
    PySem.W.WalkO q loose XP YP l.row.toRowW d [] (fun f vs => PySem.call f vs) := by
  refine Att.attach_call hn hdf fun w s0 s1 mg mb fa o pm cd doc a vs ns G Y ho hd hcd hmg hobj hints hlen hgens => ?_
  obtain ⟨fd, hb, hF⟩ := F w mg fa _ (hY w _ Y) G.T.g hmg
  exact law_G (hY w _ Y) G.T.g G.T.b G.T.builtins G.T.nolimit hgens hobj hints (Nat.le_trans hlen hn2) hr hF hb fun H hO hS => hsp (K w.params) H a ns hlen hO hS
end CW

namespace CW
open PySem PySem.Spec PyProof.Rows L2
/-! ## 12. Small words for readings -/
abbrev Dn (Q : VK) : Ends := { nx := fun _ H' => Q .non H', rt := Q }
theorem drop_upd {H : Hp} {D : Addr} {o : HO} (h : H D = none) : dropA (upd H D o) D = H := by
  funext b
  unfold dropA upd
  by_cases e : b = D
  · rw [if_pos e, e, h]
  · rw [if_neg e, if_neg e]
section
variable {K : PySem.W.Frag} {H : Hp} {Q : VK} {p : Addr} {xs : List V} {v : V} {i : Int}
theorem sub_lst (h : H p = some (.lst xs)) (e : atI xs i = some v) (q : Q v H) : rSub K (.ref p) (.int i) H Q := .inl ⟨p, xs, i, v, rfl, rfl, SqL.of h, e, q⟩
theorem sub_sql (h : SqL K H p xs) (e : atI xs i = some v) (q : Q v H) : rSub K (.ref p) (.int i) H Q := .inl ⟨p, xs, i, v, rfl, rfl, h, e, q⟩
theorem sub_tup (h : SqT K H p xs) (e : atI xs i = some v) (q : Q v H) : rSub K (.ref p) (.int i) H Q := .inr (.inl ⟨p, xs, i, v, rfl, rfl, h, e, q⟩)
theorem sub_str {z : Str} {c : Nat} (hz : z.length ≤ 1000) (e : atI z.cps.toList i = some c) (q : Q (.str ⟨#[c]⟩) H) : rSub K (.str z) (.int i) H Q := ⟨Nat.le_trans hz (by decide), c, e, q⟩
theorem set_lst {j : Int} {k : Nat} {R : Hp → Prop} (h : H p = some (.lst xs)) (e : ixN xs.length j = some k) (q : R (upd H p (.lst (xs.set k v)))) : rSet (.ref p) (.int j) v H R := .inl ⟨p, xs, j, k, rfl, rfl, h, e, q⟩
theorem len_str {z : Str} (hz : z.length ≤ 1000) (q : Q (.int z.length) H) : rBi K .len [.str z] H Q := ⟨Nat.le_trans hz (by decide), q⟩
theorem len_sql (h : SqL K H p xs) (q : Q (.int xs.length) H) : rBi K .len [.ref p] H Q := .inl ⟨xs, h, q⟩
theorem len_sqt (h : SqT K H p xs) (q : Q (.int xs.length) H) : rBi K .len [.ref p] H Q := .inr (.inl ⟨xs, h, q⟩)
theorem atI_of {α : Type} {xs : List α} {i : Int} (h0 : 0 ≤ i) (h1 : i < xs.length) : ∃ v, atI xs i = some v ∧ v ∈ xs := by
  obtain ⟨k, rfl⟩ := Int.eq_ofNat_of_zero_le h0
  have hk : k < xs.length := by omega
  exact ⟨xs[k], atI_nat (List.getElem?_eq_getElem hk), List.getElem_mem hk⟩
end
section
variable {K : PySem.W.Frag} {W : WX} {σ : L2.St} {H : Hp} {Q : VK} {D : Ends}
theorem st_setc {i : Nat} {e : E} {r : S} (h : wE K W e σ H fun x H1 => wS K W r D (σ.set i (some x)) H1) : wS K W (.cons (.set (.v i) e) r) D σ H := h
theorem st_ret {e : E} {r : S} (h : wE K W e σ H D.rt) : wS K W (.cons (.ret e) r) D σ H := h
theorem st_ite {c : E} {a b r : S} (h : wT K W c σ H fun k H1 => if k = true then wS K W a { D with nx := wS K W r D } σ H1 else wS K W b { D with nx := wS K W r D } σ H1) : wS K W (.cons (.ite c a b) r) D σ H := h
theorem e_repr {i : Nat} {x : V} (hi : σ[i]? = some (some x)) (h : rRepr K x H Q) : wE K W (.bi .repr (.cons (.v i) .nil)) σ H Q := by
  show (match σ[i]? with | some (some x) => rRepr K x H Q | _ => False)
  rw [hi]
  exact h
theorem t_cmp {op : CmpOp} {a b : E} {Q : Bool → Hp → Prop} (h : wE K W a σ H fun x H1 => wE K W b σ H1 fun y H2 => rCmp K op x y H2 fun z H3 => match z with | .bl k => Q k H3 | _ => False) : wT K W (.cmp op a b) σ H Q := h
end
/-- a comprehension over a text, each turn without trace -/
theorem lc_str {K : PySem.W.Frag} {W : WX} {e : E} {i j : Nat} {σ : L2.St} {H : Hp} {Q : VK} {z : Str} (g : Nat → V) (hz : z.length ≤ 1000) (hj : σ[j]? = some (some (.str z)))
    (hs : ∀ c ∈ z.cps.toList, ∀ (H' : Hp) (Q' : VK), Q' (g c) H' → wE K W0 e (σ.set i (some (.str ⟨#[c]⟩))) H' Q') (q : ∀ D, H D = none → Q (.ref D) (upd H D (.lst (z.cps.toList.map g)))) : wE K W (.lc e (.v i) (.v j) .nil [i]) σ H Q := by
  show (match σ[j]? with | some (some x) => iVal K x H _ | _ => False)
  rw [hj]
  show ∀ D, H D = none → _
  intro D hD
  have hsz : (sizeLine : Nat) = 16777216 := sizeLine_eq
  have hl : z.cps.size = z.cps.toList.length := by simp
  refine ⟨fun k m H' => m = z.cps.size - k ∧ k ≤ z.cps.size ∧ H' = upd H D (.lst ((z.cps.toList.take k).map g)), ⟨_, rfl, Nat.zero_le _, rfl⟩, ?_⟩
  rintro k m H' ⟨rfl, hk, rfl⟩
  by_cases hlt : k < z.cps.size
  · refine .inr ⟨hlt, fun H' => H' = upd H D (.lst ((z.cps.toList.take (k + 1)).map g)), fun H2 e2 => ⟨z.cps.size - (k + 1), by omega, rfl, hlt, e2⟩, ?_⟩
    rintro x H2 ⟨rfl, c, hc, rfl⟩
    have hc' : z.cps.toList[k]? = some c := by simpa using hc
    have hw : (wipe σ [i]).set i (some (.str ⟨#[c]⟩)) = σ.set i (some (.str ⟨#[c]⟩)) := by
      show (σ.set i none).set i _ = _
      rw [List.set_set]
    refine ⟨?_, ?_⟩
    · rw [hw]
      show (σ.set i _).set i none = σ.set i none
      rw [List.set_set]
    show wE K W0 e ((wipe σ [i]).set i (some (.str ⟨#[c]⟩))) _ _
    rw [hw]
    refine hs c (List.mem_of_getElem? hc') _ _ ⟨_, upd_same, ?_, ?_⟩
    · rw [List.length_map, List.length_take]
      have : z.length = z.cps.size := rfl
      omega
    · have et : z.cps.toList.take (k + 1) = z.cps.toList.take k ++ [c] := by
        rw [List.take_succ, hc']; rfl
      rw [upd_upd, et, List.map_append]; rfl
  · have ek : k = z.cps.size := by omega
    subst ek
    refine .inl ⟨Nat.le_refl _, ?_⟩
    rw [hl, List.take_length]
    exact q D hD
/-- all([.. for c in text]) -/
theorem all_str {K : PySem.W.Frag} {W : WX} {e : E} {i j : Nat} {σ : L2.St} {H : Hp} {Q : VK} {z : Str} (g : Nat → Bool) (hz : z.length ≤ 1000) (hj : σ[j]? = some (some (.str z)))
    (hs : ∀ c ∈ z.cps.toList, ∀ (H' : Hp) (Q' : VK), Q' (.bl (g c)) H' → wE K W0 e (σ.set i (some (.str ⟨#[c]⟩))) H' Q') (q : Q (.bl (z.cps.toList.all g)) H) : wE K W (.bid .all (.lc e (.v i) (.v j) .nil [i])) σ H Q := by
  have y := lc_str (W := W) (H := H) (Q := fun x H1 => ∃ D acc, x = .ref D ∧ H1 D = some (.lst acc) ∧ rBi K .all [.ref D] H1 fun r H2 => H2 D = some (.lst acc) ∧ Q r (dropA H2 D)) (fun c => .bl (g c)) hz hj hs ?_
  · exact y
  intro D hD
  refine ⟨D, _, rfl, upd_same, z.cps.toList.map g, SqL.of (by rw [upd_same, List.map_map]; rfl), upd_same, ?_⟩
  rw [drop_upd hD, List.all_map]
  exact q
end CW

namespace CW
open PySem PySem.Spec PyProof.Rows L2
/-! ## 13. The draws of the laws -/
/-- a pot: two numbers -/
def Pot (H : Hp) (p : Addr) : Prop := ∃ x y : Int, H p = some (.lst [.int x, .int y]) ∧ 0 ≤ x ∧ 0 ≤ y ∧ y < 4294967296
/-- the pot at p may have changed, things may have come, all else stands -/
structure Chg (p : Addr) (H H' : Hp) : Prop where
  pot : Pot H' p
  old : ∀ b o, b ≠ p → H b = some o → H' b = some o
theorem Chg.refl {p : Addr} {H : Hp} (h : Pot H p) : Chg p H H := ⟨h, fun _ _ _ e => e⟩
theorem Chg.trans {p : Addr} {H H1 H2 : Hp} (a : Chg p H H1) (b : Chg p H1 H2) : Chg p H H2 := ⟨b.pot, fun c o n e => b.old c o n (a.old c o n e)⟩
theorem Chg.new {p : Addr} {H H' : Hp} {q : Addr} {o : HO} (a : Chg p H H') (hq : H' q = none) : Chg p H (upd H' q o) := by
  obtain ⟨⟨x, y, e, r⟩, k⟩ := a
  refine ⟨⟨x, y, by rw [upd_ne (ne_of_none e hq)]; exact e, r⟩, fun b u n z => ?_⟩
  rw [upd_ne (ne_of_none (k b u n z) hq)]
  exact k b u n z
theorem Chg.free {p : Addr} {H H' : Hp} (a : Chg p H H') (hp : Pot H p) {q : Addr} (hq : H' q = none) : H q = none := by
  cases e : H q with
  | none => rfl
  | some o =>
    by_cases n : q = p
    · obtain ⟨x, y, z, _⟩ := a.pot
      rw [← n, hq] at z
      exact nomatch z
    · rw [a.old q o n e] at hq
      exact nomatch hq
theorem Chg.ne {p : Addr} {H : Hp} (hp : Pot H p) {q : Addr} (hq : H q = none) : q ≠ p := fun e => by
  obtain ⟨x, y, z, _⟩ := hp
  rw [← e, hq] at z
  exact nomatch z
theorem Chg.drop {p : Addr} {H H' : Hp} {D : Addr} (a : Chg p H H') (hp : Pot H p) (hD : H D = none) : Chg p H (dropA H' D) := by
  have n := Chg.ne hp hD
  have yes : ∀ {b : Addr} {o : HO}, b ≠ D → H' b = some o → dropA H' D b = some o := fun h e => by unfold dropA; rw [if_neg h]; exact e
  obtain ⟨x, y, e, r⟩ := a.pot
  refine ⟨⟨x, y, yes n.symm e, r⟩, fun b o hb z => yes (fun q => by rw [q, hD] at z; exact nomatch z) (a.old b o hb z)⟩
theorem Chg.put {p : Addr} {H H' : Hp} {x y : Int} (a : Chg p H H') (hx : 0 ≤ x) (hy : 0 ≤ y) (hy2 : y < 4294967296) : Chg p H (upd H' p (.lst [.int x, .int y])) :=
  ⟨⟨x, y, upd_same, hx, hy, hy2⟩, fun b o n e => by rw [upd_ne n]; exact a.old b o n e⟩
/-- _law_draw -/
def drawB (a b m1 m2 dv : Int) : S := .cons (.ite (.cmp .Gt (.sub (.v 0) (.c (.int 0))) (.c (.int 0))) (.cons (.set (.tup (.cons (.sub (.v 0) (.c (.int 0))) (.cons (.v 2) (.nil)))) (.bi .divmod (.cons (.sub (.v 0) (.c (.int 0))) (.cons (.v 1) (.nil))))) (.cons (.ret (.v 2)) (.nil))) (.nil)) (.cons (.set (.sub (.v 0) (.c (.int 1))) (.bin .Mod (.bi .int (.cons (.bin .Add (.bin .Mult (.sub (.v 0) (.c (.int 1))) (.c (.int a))) (.c (.int b))) (.nil))) (.c (.int m1)))) (.cons (.ret (.bin .Mod (.bi .int (.cons (.bin .FloorDiv (.bin .Mod (.bi .int (.cons (.bin .Mult (.sub (.v 0) (.c (.int 1))) (.sub (.v 0) (.c (.int 1)))) (.nil))) (.c (.int m2))) (.c (.int dv))) (.nil))) (.v 1))) (.nil)))
def spDraw : Sp := fun vs H Q _ => ∃ (p : Addr) (n : Int), vs = [.ref p, .int n] ∧ Pot H p ∧ 0 < n ∧ n < 1000000 ∧ ∀ (d : Int) (H' : Hp), 0 ≤ d → d < n → Chg p H H' → Q (.int d) H'
theorem rd_draw {K : PySem.W.Frag} {W : WX} {a b m1 m2 dv : Int} (ha : 0 ≤ a ∧ a < 4294967296) (hb : 0 ≤ b) (h1 : 0 < m1 ∧ m1 < 4294967296) (h2 : 0 < m2) (hd : 0 < dv ∧ dv < 1073741824) (vs : List V) (H : Hp) (Q : VK) (R : XK) (h : spDraw vs H Q R) :
    vs.length = 2 ∧ wS K W (drawB a b m1 m2 dv) (Dn Q) (start ["a", "b", "c"] vs) H := by
  obtain ⟨p, n, rfl, ⟨x, y, hp, hx, hy, hy2⟩, hn, hn2, q⟩ := h
  refine ⟨rfl, ?_⟩
  have c0 : Chg p H H := .refl ⟨x, y, hp, hx, hy, hy2⟩
  refine sub_lst hp rfl ?_
  show if decide (0 < x) = true then _ else _
  split
  · -- the digits
    refine sub_lst hp rfl ⟨⟨hn, by omega⟩, fun t ht => ?_⟩
    have ntp : p ≠ t := ne_of_none hp ht
    refine ⟨t, _, rfl, .inl (.inl upd_same), rfl, _, _, rfl, ?_⟩
    refine set_lst (xs := [.int x, .int y]) (k := 0) (by rw [upd_ne ntp]; exact hp) rfl ?_
    refine ⟨_, _, rfl, rfl, ?_⟩
    refine q _ _ (Int.emod_nonneg _ (by omega)) (Int.emod_lt_of_pos _ hn) ?_
    exact (c0.new ht).put (Int.ediv_nonneg hx (by omega)) hy hy2
  · -- the mixed numbers
    refine sub_lst hp rfl ⟨.inl ⟨by omega, by omega⟩, ?_⟩
    refine ⟨h1.1, ?_⟩
    have y1 : 0 ≤ (y * a + b) % m1 := Int.emod_nonneg _ (by omega)
    have y2 : (y * a + b) % m1 < m1 := Int.emod_lt_of_pos _ h1.1
    refine set_lst (xs := [.int x, .int y]) (k := 1) hp rfl ?_
    have hp2 : upd H p (.lst [.int x, .int ((y * a + b) % m1)]) p = some (.lst [.int x, .int ((y * a + b) % m1)]) := upd_same
    refine sub_lst hp2 rfl (sub_lst hp2 rfl ⟨.inl ⟨by omega, by omega⟩, ⟨h2, ⟨hd, ⟨hn, ?_⟩⟩⟩⟩)
    exact q _ _ (Int.emod_nonneg _ (by omega)) (Int.emod_lt_of_pos _ hn) (c0.put hx y1 (by omega))
/-- _law_pot -/
def potB (a b t e m1 c k1 k2 m2 f : Int) : S := .cons (.set (.v 2) (.bin .Add (.bin .Mult (.c (.int a)) (.v 1)) (.c (.int b)))) (.cons (.ite (.cmp .Lt (.v 1) (.bi .len (.cons (.v 0) (.nil)))) (.cons (.set (.v 2) (.bi .abs (.cons (.sub (.v 0) (.v 1)) (.nil)))) (.nil)) (.nil)) (.cons (.ret (.lst (.cons (.bi .max (.cons (.c (.int 0)) (.cons (.bin .Sub (.v 2) (.bin .Pow (.c (.int t)) (.c (.int e)))) (.nil)))) (.cons (.bin .Add (.bin .Mod (.bi .int (.cons (.bin .Add (.bin .Add (.bin .Mult (.bin .Mod (.bi .int (.cons (.v 2) (.nil))) (.c (.int m1))) (.c (.int c))) (.bin .Mult (.c (.int k1)) (.v 1))) (.c (.int k2))) (.nil))) (.c (.int m2))) (.c (.int f))) (.nil))))) (.nil)))
def spPot (K : PySem.W.Frag) : Sp := fun vs H Q _ => ∃ (a : Addr) (ns : List Int) (k : Int), vs = [.ref a, .int k] ∧ SqL K H a (ns.map V.int) ∧ 0 ≤ k ∧ k < 100 ∧ ∀ (p : Addr) (x y : Int), H p = none → 0 ≤ x → 0 ≤ y → y < 4294967296 → Q (.ref p) (upd H p (.lst [.int x, .int y]))
theorem rd_pot {K : PySem.W.Frag} {W : WX} {a b t e m1 c k1 k2 m2 f : Int} (ha : 0 ≤ a ∧ a < 1000000) (ht : 0 ≤ t ∧ t < 100) (he : 0 ≤ e ∧ e < 100) (h1 : 0 < m1 ∧ m1 < 4294967296) (hc : 0 ≤ c ∧ c < 4294967296) (hk : 0 ≤ k1 ∧ k1 < 1000000) (h2 : 0 < m2 ∧ m2 < 4294967290) (hf : 0 ≤ f ∧ f < 3)
    (vs : List V) (H : Hp) (Q : VK) (R : XK) (h : spPot K vs H Q R) : vs.length = 2 ∧ wS K W (potB a b t e m1 c k1 k2 m2 f) (Dn Q) (start ["a", "b", "c"] vs) H := by
  obtain ⟨s, ns, k, rfl, hs, k0, k1', q⟩ := h
  refine ⟨rfl, ⟨.inl ⟨by omega, by omega⟩, ?_⟩⟩
  have fin : ∀ z : Int, wS K W (.cons (.ret (.lst (.cons (.bi .max (.cons (.c (.int 0)) (.cons (.bin .Sub (.v 2) (.bin .Pow (.c (.int t)) (.c (.int e)))) (.nil)))) (.cons (.bin .Add (.bin .Mod (.bi .int (.cons (.bin .Add (.bin .Add (.bin .Mult (.bin .Mod (.bi .int (.cons (.v 2) (.nil))) (.c (.int m1))) (.c (.int c))) (.bin .Mult (.c (.int k1)) (.v 1))) (.c (.int k2))) (.nil))) (.c (.int m2))) (.c (.int f))) (.nil))))) (.nil)) (Dn Q) [some (.ref s), some (.int k), some (.int z)] H := by
    intro z
    have z1 : 0 ≤ z % m1 := Int.emod_nonneg _ (by omega)
    have z2 : z % m1 < m1 := Int.emod_lt_of_pos _ h1.1
    refine ⟨⟨he.1, by omega, by omega⟩, ⟨h1.1, ⟨.inl ⟨by omega, by omega⟩, ⟨.inl ⟨by omega, by omega⟩, ⟨h2.1, by show 2 ≤ sizeLine; decide, fun p hp => ?_⟩⟩⟩⟩⟩
    have w1 : 0 ≤ (z % m1 * c + k1 * k + k2) % m2 := Int.emod_nonneg _ (by omega)
    have w2 : (z % m1 * c + k1 * k + k2) % m2 < m2 := Int.emod_lt_of_pos _ h2.1
    refine q p _ _ hp ?_ (by omega) (by omega)
    split <;> omega
  refine Or.inl ⟨_, hs, ?_⟩
  show if decide (k < ((ns.map V.int).length : Int)) = true then _ else _
  split
  · rename_i hlt
    have hlt := of_decide_eq_true hlt
    obtain ⟨v, hv, hm⟩ := atI_of k0 hlt
    obtain ⟨i, _, rfl⟩ := List.mem_map.mp hm
    exact Or.inl ⟨s, _, k, _, rfl, rfl, hs, hv, fin _⟩
  · exact fin _
end CW

namespace CW
open PySem PySem.Spec PyProof.Rows L2
theorem Chg.sql {K : PySem.W.Frag} {p l : Addr} {H H' : Hp} {xs : List V} (a : Chg p H H') (n : l ≠ p) (h : SqL K H l xs) : SqL K H' l xs := by
  rcases h with (h | ⟨o, h⟩) | h
  · exact .inl (.inl (a.old _ _ n h))
  · exact .inl (.inr ⟨o, a.old _ _ n h⟩)
  · exact .inr h
theorem Chg.sqt {K : PySem.W.Frag} {p l : Addr} {H H' : Hp} {xs : List V} (a : Chg p H H') (n : l ≠ p) (h : SqT K H l xs) : SqT K H' l xs := by
  rcases h with (h | ⟨o, h⟩) | h
  · exact .inl (.inl (a.old _ _ n h))
  · exact .inl (.inr ⟨o, a.old _ _ n h⟩)
  · exact .inr h
/-- a thing of one's own, made behind H, is set anew -/
theorem Chg.set {p D : Addr} {H H' : Hp} {o : HO} (a : Chg p H H') (hp : Pot H p) (hD : H D = none) : Chg p H (upd H' D o) := by
  have n := Chg.ne hp hD
  obtain ⟨x, y, e, r⟩ := a.pot
  exact ⟨⟨x, y, by rw [upd_ne n.symm]; exact e, r⟩, fun b u hb z => by rw [upd_ne (ne_of_none z hD)]; exact a.old b u hb z⟩
/-- _law_among -/
def amongB (sp : Sp) : S := .cons (.ret (.sub (.v 1) (.call sp (.cons (.v 0) (.cons (.bi .len (.cons (.v 1) (.nil))) (.nil))) (.nil) [.p 0, .p 1]))) (.nil)
def spAmong (K : PySem.W.Frag) : Sp := fun vs H Q _ => ∃ (p : Addr) (x : V), vs = [.ref p, x] ∧ Pot H p ∧
  ((∃ l xs, x = .ref l ∧ l ≠ p ∧ SqL K H l xs ∧ 0 < xs.length ∧ xs.length < 1000000 ∧ ∀ v H', v ∈ xs → Chg p H H' → Q v H') ∨
   (∃ z : Str, x = .str z ∧ 0 < z.length ∧ z.length ≤ 1000 ∧ ∀ c H', c ∈ z.cps.toList → Chg p H H' → Q (.str ⟨#[c]⟩) H') ∨
   (∃ l xs, x = .ref l ∧ l ≠ p ∧ SqT K H l xs ∧ 0 < xs.length ∧ xs.length < 1000000 ∧ ∀ v H', v ∈ xs → Chg p H H' → Q v H'))
theorem rd_among {K : PySem.W.Frag} {W : WX} (vs : List V) (H : Hp) (Q : VK) (R : XK) (h : spAmong K vs H Q R) : vs.length = 2 ∧ wS K W (amongB spDraw) (Dn Q) (start ["a", "b"] vs) H := by
  obtain ⟨p, x, rfl, hp, h⟩ := h
  refine ⟨rfl, ?_⟩
  rcases h with ⟨l, xs, rfl, nl, hs, h0, h1, q⟩ | ⟨z, rfl, h0, h1, q⟩ | ⟨l, xs, rfl, nl, hs, h0, h1, q⟩
  · refine Or.inl ⟨_, hs, ?_⟩
    refine ⟨p, _, rfl, hp, by omega, by omega, fun d H' d0 d1 ch => ?_⟩
    obtain ⟨v, hv, hm⟩ := atI_of d0 d1
    exact Or.inl ⟨l, xs, d, v, rfl, rfl, ch.sql nl hs, hv, q v H' hm ch⟩
  · refine ⟨Nat.le_trans h1 (by decide), ?_⟩
    refine ⟨p, _, rfl, hp, by omega, by omega, fun d H' d0 d1 ch => ?_⟩
    obtain ⟨c, hv, hm⟩ := atI_of (xs := z.cps.toList) d0 (by simpa [Str.length] using d1)
    exact ⟨Nat.le_trans h1 (by decide), c, hv, q c H' hm ch⟩
  · refine Or.inr (Or.inl ⟨_, hs, ?_⟩)
    refine ⟨p, _, rfl, hp, by omega, by omega, fun d H' d0 d1 ch => ?_⟩
    obtain ⟨v, hv, hm⟩ := atI_of d0 d1
    exact Or.inr (Or.inl ⟨l, xs, d, v, rfl, rfl, ch.sqt nl hs, hv, q v H' hm ch⟩)
theorem join_signs (cs : List Nat) : Txt.join "" (cs.map fun c => (⟨#[c]⟩ : Str)) = ⟨cs.toArray⟩ := by
  have go : ∀ cs : List Nat, (Str.join "" (cs.map fun c => (⟨#[c]⟩ : Str))).cps.toList = cs := by
    intro cs
    rw [show (Str.join "" (cs.map fun c => (⟨#[c]⟩ : Str))).cps.toList = TL.tl (Str.join "" (cs.map fun c => (⟨#[c]⟩ : Str))) from rfl, TL.tl_join, List.map_map]
    have : ∀ l : List Nat, TL.joinL (TL.tl "") (l.map (TL.tl ∘ fun c => (⟨#[c]⟩ : Str))) = l := by
      intro l
      induction l with
      | nil => rfl
      | cons a r ih =>
        cases r with
        | nil => rfl
        | cons b r => exact congrArg (a :: ·) ih
    exact this cs
  rw [TL.join_eq]
  have h := go cs
  cases hx : Str.join "" (cs.map fun c => (⟨#[c]⟩ : Str)) with
  | mk a => rw [hx] at h; rw [← h]
theorem sum_ones (cs : List Nat) : ((cs.map fun c => (⟨#[c]⟩ : Str)).map (·.length)).sum = cs.length := by
  induction cs with
  | nil => rfl
  | cons a r ih => rw [List.map_cons, List.map_cons, List.sum_cons, ih, List.length_cons]; show 1 + _ = _; omega
/-- ''.join([a drawn sign for turn in range(n)]) -/
theorem join_turns {K : PySem.W.Frag} {e : E} {i n : Nat} {σ : L2.St} {p : Addr} {P : Nat → Prop} {H : Hp} {Q : VK} (hp : Pot H p) (hn : n ≤ 1000)
    (step : ∀ (t : Int) (H2 : Hp) (Q' : VK), Pot H2 p → (∀ b o, b ≠ p → H b = some o → H2 b = some o) → (∀ c H3, P c → Chg p H2 H3 → Q' (.str ⟨#[c]⟩) H3) → wE K W0 e (σ.set i (some (.int t))) H2 Q')
    (q : ∀ (cs : List Nat) (H3 : Hp), cs.length = n → (∀ c ∈ cs, P c) → Chg p H H3 → Q (.str ⟨cs.toArray⟩) H3) (D : Addr) (hD : H D = none) :
    ∃ Wn : Nat → Nat → Hp → Prop, (∃ m, Wn 0 m (upd H D (.lst []))) ∧ ∀ k m H, Wn k m H →
      ((Itr 0 n).stop k H ∧ ∃ D' acc, V.ref D = .ref D' ∧ H D' = some (.lst acc) ∧ rMt K .join (.str "") [.ref D'] H fun r H3 => H3 D' = some (.lst acc) ∧ Q r (dropA H3 D')) ∨
      ((Itr 0 n).go k H ∧ ∃ Nx : Hp → Prop, (∀ H', Nx H' → ∃ m', m' < m ∧ Wn (k + 1) m' H') ∧ ∀ x H', (Itr 0 n).yld k H x H' → wG K W0 (.v i) x (wipe σ [i]) H' fun σ2 H2 => wipe σ2 [i] = wipe σ [i] ∧ wC K W0 .nil σ2 H2 fun b H3 =>
        if b = true then wE K W0 e σ2 H3 fun y H4 => ∃ acc, H4 D = some (.lst acc) ∧ acc.length < sizeLine ∧ Nx (upd H4 D (.lst (acc ++ [y]))) else Nx H3) := by
  have nD := Chg.ne hp hD
  refine lc_range (lo := 0) (n := n) (vs := [i]) (Qd := fun H => ∃ D' acc, V.ref D = .ref D' ∧ H D' = some (.lst acc) ∧ rMt K .join (.str "") [.ref D'] H fun r H3 => H3 D' = some (.lst acc) ∧ Q r (dropA H3 D'))
    (fun k H2 => ∃ cs : List Nat, cs.length = k ∧ (∀ c ∈ cs, P c) ∧ H2 D = some (.lst ((cs.map fun c => (⟨#[c]⟩ : Str)).map V.str)) ∧ Chg p H H2) ⟨[], rfl, fun _ z => (nomatch z), upd_same, (Chg.refl hp).new hD⟩ (fun k H2 hk h => ?_) (fun H2 h => ?_)
  · obtain ⟨cs, hl, hc, hd, ch⟩ := h
    refine ⟨?_, ?_⟩
    · show ((σ.set i none).set i _).set i none = σ.set i none
      rw [List.set_set, List.set_set]
    show wE K W0 e ((wipe σ [i]).set i (some (.int (0 + (k : Int))))) H2 _
    have hw : (wipe σ [i]).set i (some (.int (0 + (k : Int)))) = σ.set i (some (.int (0 + (k : Int)))) := by
      show (σ.set i none).set i _ = _
      rw [List.set_set]
    rw [hw]
    refine step _ _ _ ch.pot ch.old fun c H3 pc ch3 => ?_
    refine ⟨_, ch3.old _ _ nD hd, ?_, cs ++ [c], ?_, ?_, ?_, ?_⟩
    · have hz : (sizeLine : Nat) = 16777216 := sizeLine_eq
      simp only [List.length_map]; omega
    · simp [hl]
    · intro d hd
      rcases List.mem_append.mp hd with z | z
      · exact hc d z
      · rw [List.mem_singleton.mp z]; exact pc
    · rw [upd_same]; simp
    · exact (ch.trans ch3).set hp hD
  · obtain ⟨cs, hl, hc, hd, ch⟩ := h
    refine ⟨D, _, rfl, hd, _, .inl (SqL.of hd), ?_, hd, ?_⟩
    · rw [sum_ones]
      show cs.length + _ * 0 ≤ _
      omega
    · rw [join_signs]
      exact q cs _ hl hc (ch.drop hp hD)
end CW

namespace CW
open PySem PySem.Spec PyProof.Rows L2
/-! ## 14. The assembly -/
def arrU (ar : List Ar) (us ws : List Value) : List Value := ar.map fun
  | .p i => us.getD i .none
  | .q i => ws.getD i .none
  | .d _ => .none
def noD : Ar → Bool
  | .d .non => true
  | .d _ => false
  | _ => true
theorem vals_getD {vs : List V} {us : List Value} (r : Vals vs us) (i : Nat) : RelV (vs.getD i .non) (us.getD i .none) := by
  cases e : vs[i]? with
  | none =>
    have e2 := Vals.none_of r e
    rw [List.getD_eq_getElem?_getD, List.getD_eq_getElem?_getD, e, e2]
    rfl
  | some v =>
    obtain ⟨u, e2, r2⟩ := r.get e
    rw [List.getD_eq_getElem?_getD, List.getD_eq_getElem?_getD, e, e2]
    exact r2
theorem vals_arr {vs zs : List V} {us ws : List Value} (r1 : Vals vs us) (r2 : Vals zs ws) : ∀ {ar : List Ar}, ar.all noD = true → Vals (arr ar vs zs) (arrU ar us ws)
  | [], _ => .nil
  | a :: ar, h => by
    rw [List.all_cons, Bool.and_eq_true] at h
    refine .cons ?_ (vals_arr r1 r2 h.2)
    cases a with
    | p i => exact vals_getD r1 i
    | q i => exact vals_getD r2 i
    | d v => cases v <;> first | rfl | (exact nomatch h.1)
theorem kb_of {K : PySem.W.Frag} {fd : FuncData} {ps : List Str} {n : Nat} {ks : List Str} {ar : List Ar} (hd : ar.all noD = true) (h : ∀ us ws : List Value, us.length = n → ws.length = ks.length → bindArgs fd ⟨us, ks.zip ws⟩ = pure (ps.zip (arrU ar us ws))) : KB K fd ps n ks ar :=
  ⟨arrU ar, fun _ us ws _ h1 h2 => .of_eq (h us ws h1 h2), fun r1 r2 _ _ => vals_arr r1 r2 hd⟩
theorem kb_ofD {K : PySem.W.Frag} {fd : FuncData} {ps : List Str} {n : Nat} {ks : List Str} {ar : List Ar} {T : Addr} {oc : Value} {od : Option Addr} {osl : Array (Option Value)} {items : Array Value} {c : Nat} (k : List Value → List Value → Option (Array Value) → Sem (List (Str × Value)))
    (hd : ar.all noD = true) (hT : K.lookup T = some ⟨oc, od, .seq items c, osl⟩) (hf : fd.defaults = .ref T) (h1 : ∀ us ws : List Value, us.length = n → ws.length = ks.length → bindArgs fd ⟨us, ks.zip ws⟩ = seqItems? fd.defaults >>= k us ws)
    (h2 : ∀ us ws : List Value, us.length = n → ws.length = ks.length → k us ws (some items) = pure (ps.zip (arrU ar us ws))) : KB K fd ps n ks ar :=
  ⟨arrU ar, fun _ us ws X l1 l2 => .of_defaults hf (X _ _ hT) rfl (h1 us ws l1 l2) (h2 us ws l1 l2), fun r1 r2 _ _ => vals_arr r1 r2 hd⟩
theorem mnil {α : Type} {p : α → Prop} : ∀ x ∈ ([] : List α), p x := fun _ z => nomatch z
theorem mcons {α : Type} {p : α → Prop} {a : α} {l : List α} (h : p a) (t : ∀ x ∈ l, p x) : ∀ x ∈ a :: l, p x := fun x z => (List.mem_cons.mp z).elim (fun e => e ▸ h) (t x)
/-- a statement of a class -/
def inner (s : Stmt) (i : Nat) : Stmt := match s with
  | .ClassDef _ _ _ b _ _ _ _ _ _ _ => b.getD i (.Pass ⟨0, 0, 0, 0⟩)
  | _ => .Pass ⟨0, 0, 0, 0⟩
theorem gnil {p : Str × Gv → Prop} : ∀ x ∈ ([] : List (Str × Gv)), p x := fun _ z => nomatch z
theorem gcons {p : Str × Gv → Prop} {a : Str × Gv} {l : List (Str × Gv)} (h : p a) (t : ∀ x ∈ l, p x) : ∀ x ∈ a :: l, p x := fun x z => (List.mem_cons.mp z).elim (fun e => e ▸ h) (t x)
theorem knil {p : (Nat × List Str × List Ar) → Prop} : ∀ x ∈ ([] : List (Nat × List Str × List Ar)), p x := fun _ z => nomatch z
theorem kcons {p : (Nat × List Str × List Ar) → Prop} {a : Nat × List Str × List Ar} {l : List (Nat × List Str × List Ar)} (h : p a) (t : ∀ x ∈ l, p x) : ∀ x ∈ a :: l, p x := fun x z => (List.mem_cons.mp z).elim (fun e => e ▸ h) (t x)
/-- a scalar's value, as written -/
def relB : V → Value → Bool
  | .non, .none => true
  | .bl a, .bool b => a == b
  | .int a, .int b _ => a == b
  | .str a, .str b _ => decide (a = b)
  | .ref a, .ref b => a == b
  | _, _ => false
theorem relB_ok : ∀ {v : V} {u : Value}, relB v u = true → RelV v u
  | .non, .none, _ => rfl
  | .bl a, .bool b, h => by simp only [relB, beq_iff_eq] at h; rw [h]; rfl
  | .int a, .int b t, h => by simp only [relB, beq_iff_eq] at h; rw [h]; exact ⟨t, rfl⟩
  | .str a, .str b t, h => by simp only [relB, decide_eq_true_eq] at h; rw [h]; exact ⟨t, rfl⟩
  | .ref a, .ref b, h => by simp only [relB, beq_iff_eq] at h; rw [h]; rfl
def valsB : List V → List Value → Bool
  | [], [] => true
  | v :: vs, u :: us => relB v u && valsB vs us
  | _, _ => false
theorem valsB_ok : ∀ {vs : List V} {us : List Value}, valsB vs us = true → Vals vs us
  | [], [], _ => .nil
  | v :: vs, u :: us, h => by
    simp only [valsB, Bool.and_eq_true] at h
    exact .cons (relB_ok h.1) (valsB_ok h.2)
/-- a written tuple -/
theorem sqt_of {K : PySem.W.Frag} {a : Addr} {dd : Option Addr} {its : Array Value} {n : Nat} {sl : Array (Option Value)} {xs : List V} (l : K.lookup a = some ⟨.type "tuple", dd, .seq its n, sl⟩) (hz : its.size ≤ sizeLine) (v : valsB xs its.toList = true) (H : Hp) : SqT K H a xs :=
  .inr ⟨_, its, n, l, rfl, rfl, hz, valsB_ok v⟩
end CW

namespace CW
open PySem PySem.Spec PyProof.Rows L2
/-! ## 16. Data that grow -/
def Grow (H H' : Hp) : Prop := ∀ b o, H b = some o → H' b = some o
theorem Grow.refl {H : Hp} : Grow H H := fun _ _ e => e
theorem Grow.trans {H H1 H2 : Hp} (a : Grow H H1) (b : Grow H1 H2) : Grow H H2 := fun c o e => b c o (a c o e)
theorem Grow.new {H H' : Hp} {q : Addr} {o : HO} (a : Grow H H') (hq : H' q = none) : Grow H (upd H' q o) := fun b u e => by
  rw [upd_ne (ne_of_none (a b u e) hq)]; exact a b u e
theorem Grow.drop {H : Hp} {D : Addr} : Grow (dropA H D) H := fun b o e => by
  unfold dropA at e
  split at e
  · cases e
  · exact e
theorem dropA_ne {H : Hp} {D b : Addr} (h : b ≠ D) : dropA H D b = H b := by unfold dropA; rw [if_neg h]
theorem dropA_self {H : Hp} {D : Addr} : dropA H D D = none := by unfold dropA; rw [if_pos rfl]
theorem Grow.dropped {H H' : Hp} {D : Addr} (a : Grow H H') (hD : H D = none) : Grow H (dropA H' D) := fun b o e => by
  rw [dropA_ne (ne_of_none e hD)]; exact a b o e
theorem Grow.drops {H H' : Hp} {D : Addr} (a : Grow H H') : Grow (dropA H D) (dropA H' D) := fun b o e => by
  by_cases h : b = D
  · rw [h, dropA_self] at e; cases e
  · rw [dropA_ne h] at e ⊢; exact a b o e
theorem drop_updD {H : Hp} {D : Addr} {o : HO} : dropA (upd H D o) D = dropA H D := by
  funext b
  by_cases h : b = D
  · rw [h, dropA_self, dropA_self]
  · rw [dropA_ne h, dropA_ne h, upd_ne h]
theorem drop_none {H : Hp} {D : Addr} (h : H D = none) : dropA H D = H := by
  funext b
  by_cases e : b = D
  · rw [e, dropA_self, h]
  · rw [dropA_ne e]
theorem Grow.set {H : Hp} {D : Addr} {o : HO} : Grow (dropA H D) (upd H D o) := fun b u e => by
  by_cases h : b = D
  · rw [h, dropA_self] at e; cases e
  · rw [dropA_ne h] at e; rw [upd_ne h]; exact e
theorem Chg.grow {p : Addr} {H H' : Hp} (a : Chg p H H') : Grow (dropA H p) (dropA H' p) := fun b o e => by
  by_cases h : b = p
  · rw [h, dropA_self] at e; cases e
  · rw [dropA_ne h] at e ⊢; exact a.old b o h e
theorem Chg.of_grow {p : Addr} {H H' : Hp} (hp : Pot H p) (g : Grow H H') : Chg p H H' := by
  obtain ⟨x, y, e, r⟩ := hp
  exact ⟨⟨x, y, g _ _ e, r⟩, fun b o _ z => g b o z⟩
section
variable {K : PySem.W.Frag} {H H' : Hp}
theorem Grow.sql {l : Addr} {xs : List V} (a : Grow H H') (h : SqL K H l xs) : SqL K H' l xs := by
  rcases h with (h | ⟨o, h⟩) | h
  · exact .inl (.inl (a _ _ h))
  · exact .inl (.inr ⟨o, a _ _ h⟩)
  · exact .inr h
theorem Grow.sqt {l : Addr} {xs : List V} (a : Grow H H') (h : SqT K H l xs) : SqT K H' l xs := by
  rcases h with (h | ⟨o, h⟩) | h
  · exact .inl (.inl (a _ _ h))
  · exact .inl (.inr ⟨o, a _ _ h⟩)
  · exact .inr h
mutual
theorem Grow.dp (a : Grow H H') : ∀ (d : PyData) (v : V), Dp K H v d → Dp K H' v d
  | .none, _, h => by cases h; exact .non
  | .bool b, _, h => by cases h; exact .bl b
  | .int i, _, h => by cases h; exact .int i
  | .str x, _, h => by cases h; exact .str x
  | .list ds, _, h => by
    cases h with
    | lst hs ha => exact .lst (a.sql hs) (Grow.dpAll a ds _ ha)
  | .tuple ds, _, h => by
    cases h with
    | tup hs ha => exact .tup (a.sqt hs) (Grow.dpAll a ds _ ha)
  | .dict _, _, h => by cases h
theorem Grow.dpAll (a : Grow H H') : ∀ (ds : List PyData) (vs : List V), DpAll K H vs ds → DpAll K H' vs ds
  | [], _, h => by cases h; exact .nil
  | d :: ds, _, h => by
    cases h with
    | cons h1 h2 => exact .cons (Grow.dp a d _ h1) (Grow.dpAll a ds _ h2)
end
theorem dpAll_snoc {vs : List V} {ds : List PyData} {v : V} {d : PyData} : DpAll K H vs ds → Dp K H v d → DpAll K H (vs ++ [v]) (ds ++ [d]) := by
  intro h z
  induction vs generalizing ds with
  | nil => cases h; exact .cons z .nil
  | cons u vs ih =>
    cases h with
    | cons h1 h2 => exact .cons h1 (ih h2)
theorem dpAll_app {vs ws : List V} {ds es : List PyData} : DpAll K H vs ds → DpAll K H ws es → DpAll K H (vs ++ ws) (ds ++ es) := by
  intro h z
  induction vs generalizing ds with
  | nil => cases h; exact z
  | cons u vs ih =>
    cases h with
    | cons h1 h2 => exact .cons h1 (ih h2)
theorem dpAll_len : ∀ {ds : List PyData} {vs : List V}, DpAll K H vs ds → vs.length = ds.length
  | [], _, h => by cases h; rfl
  | d :: ds, _, h => by
    cases h with
    | cons h1 h2 => rw [List.length_cons, List.length_cons, dpAll_len h2]
theorem dpAll_rev {vs : List V} {ds : List PyData} : DpAll K H vs ds → DpAll K H vs.reverse ds.reverse := by
  intro h
  induction vs generalizing ds with
  | nil => cases h; exact .nil
  | cons u vs ih =>
    cases h with
    | cons h1 h2 => rw [List.reverse_cons, List.reverse_cons]; exact dpAll_snoc (ih h2) h1
theorem dpAll_get : ∀ {ds : List PyData} {vs : List V} {i : Nat} {v : V}, DpAll K H vs ds → vs[i]? = some v → ∃ d, ds[i]? = some d ∧ Dp K H v d
  | [], _, i, v, h, e => by cases h; cases e
  | d :: ds, _, 0, v, h, e => by
    cases h with
    | cons h1 h2 => cases e; exact ⟨d, rfl, h1⟩
  | d :: ds, _, i + 1, v, h, e => by
    cases h with
    | cons h1 h2 => exact dpAll_get (i := i) h2 e
end
/-- a new list at l with these data; all else as it was -/
structure New (K : PySem.W.Frag) (H : Hp) (l : Addr) (H' : Hp) (ds : List PyData) : Prop where
  fresh : H l = none
  here : ∃ vs, H' l = some (.lst vs) ∧ DpAll K (dropA H' l) vs ds
  grow : Grow H (dropA H' l)
section
variable {K : PySem.W.Frag} {H H' H2 : Hp} {l : Addr} {ds : List PyData}
theorem New.grows (n : New K H l H' ds) : Grow H H' := n.grow.trans Grow.drop
theorem New.dp (n : New K H l H' ds) : Dp K H' (.ref l) (.list ds) := by
  obtain ⟨vs, h1, h2⟩ := n.here
  exact .lst (SqL.of h1) (Grow.drop.dpAll _ _ h2)
theorem New.more (n : New K H l H' ds) (g : Grow H' H2) : New K H l H2 ds := by
  obtain ⟨vs, h1, h2⟩ := n.here
  exact ⟨n.fresh, ⟨vs, g _ _ h1, g.drops.dpAll _ _ h2⟩, n.grow.trans g.drops⟩
end
/-- a comprehension that only makes new data -/
theorem lc_grow {K : PySem.W.Frag} {J : It} {n : Nat} {G : Hp → Prop} {Y : Nat → Hp → V → Hp → Prop} (w : Walk J n G Y) {g : TG} {tt : TT} {te : TE} {vs : List Nat} {σ : L2.St} {H : Hp} {D : Addr} {Qd : Hp → Prop} (ds : Nat → List PyData) (hD : H D = none) (hG : ∀ H2, Grow H H2 → G H2) (h0 : ds 0 = [])
    (hl : ∀ i, i < n → (ds i).length < sizeLine)
    (hs : ∀ i x H2 H2' acc (P : Hp → Prop), i < n → Grow H H2 → H2 D = some (.lst acc) → Y i H2 x H2' →
      (∀ y H5 d, H5 D = some (.lst acc) → Grow (dropA H2 D) (dropA H5 D) → ds (i + 1) = ds i ++ [d] → Dp K (dropA H5 D) y d → ∃ acc, H5 D = some (.lst acc) ∧ acc.length < sizeLine ∧ P (upd H5 D (.lst (acc ++ [y])))) →
      (∀ H4, H4 D = some (.lst acc) → Grow (dropA H2 D) (dropA H4 D) → ds (i + 1) = ds i → P H4) →
      g x (wipe σ vs) H2' fun σ2 H3 => wipe σ2 vs = wipe σ vs ∧ tt σ2 H3 fun b H4 =>
        if b = true then te σ2 H4 fun y H5 => ∃ acc, H5 D = some (.lst acc) ∧ acc.length < sizeLine ∧ P (upd H5 D (.lst (acc ++ [y]))) else P H4)
    (hd : ∀ H', New K H D H' (ds n) → Qd H') :
    ∃ W : Nat → Nat → Hp → Prop, (∃ m, W 0 m (upd H D (.lst []))) ∧ ∀ i m H, W i m H →
      (J.stop i H ∧ Qd H) ∨ (J.go i H ∧ ∃ Nx : Hp → Prop, (∀ H', Nx H' → ∃ m', m' < m ∧ W (i + 1) m' H') ∧ ∀ x H', J.yld i H x H' → g x (wipe σ vs) H' fun σ2 H2 => wipe σ2 vs = wipe σ vs ∧ tt σ2 H2 fun b H3 =>
        if b = true then te σ2 H3 fun y H4 => ∃ acc, H4 D = some (.lst acc) ∧ acc.length < sizeLine ∧ Nx (upd H4 D (.lst (acc ++ [y]))) else Nx H3) := by
  refine lc_it w (fun i H2 => New K H D H2 (ds i)) ⟨hD, ⟨[], upd_same, by rw [h0]; exact .nil⟩, by rw [drop_upd hD]; exact .refl⟩ (fun i H2 _ h => hG _ h.grows) (fun i x H2 H2' hi h y => ?_) (fun H2 h => hd _ h)
  obtain ⟨acc, ha, hda⟩ := h.here
  refine hs i x H2 H2' acc _ hi h.grows ha y (fun y H5 d e1 e2 e3 e4 => ?_) (fun H4 e1 e2 e3 => ?_)
  · refine ⟨acc, e1, by rw [dpAll_len hda]; exact hl i hi, hD, ⟨_, upd_same, ?_⟩, ?_⟩
    · rw [drop_updD, e3]; exact dpAll_snoc (e2.dpAll _ _ hda) e4
    · rw [drop_updD]; exact h.grow.trans e2
  · exact ⟨hD, ⟨acc, e1, by rw [e3]; exact e2.dpAll _ _ hda⟩, h.grow.trans e2⟩
/-! ### data within bounds -/
structure Fit (w k : Nat) (d : PyData) : Prop where
  lay : d.canLay0 = true
  dep : d.depth ≤ k
  wei : d.weight ≤ w
  ish : d.intsShort 13 = true
  sho : d.showable = true
structure FitA (w k : Nat) (ds : List PyData) : Prop where
  lay : PyData.canLayAll0 ds = true
  dep : PyData.depthAll ds ≤ k
  wei : PyData.weightAll ds ≤ w
  ish : PyData.intsShortAll 13 ds = true
  sho : PyData.showableAll ds = true
theorem Fit.repr {K : PySem.W.Frag} {H : Hp} {v : V} {d : PyData} {w k : Nat} {Q : VK} (f : Fit w k d) (hw : w ≤ 1048576) (hk : k ≤ 60) (h : Dp K H v d) (q : Q (.str d.shown) H) : rRepr K v H Q := by
  have := f.dep
  have := f.wei
  refine .inl ⟨d, h, f.sho, by omega, ?_, q⟩
  have hz : (sizeLine : Nat) = 16777216 := sizeLine_eq
  have z : d.shown.length ≤ 15728653 := shown_le13 (by
    unfold PyData.layable0
    rw [f.lay, decide_eq_true (by omega), decide_eq_true (by omega)]; rfl) f.ish
  omega
theorem Fit.shaped {d : PyData} {w k : Nat} (f : Fit w k d) (hk : k ≤ 60) : SeqAt.shaped d = true := by
  have := f.dep
  unfold SeqAt.shaped
  rw [f.lay, decide_eq_true (by omega)]; rfl
theorem FitA.nil {k : Nat} : FitA 0 k [] := ⟨rfl, Nat.zero_le _, Nat.le_refl _, rfl, rfl⟩
theorem FitA.cons {w1 w2 k : Nat} {d : PyData} {ds : List PyData} (a : Fit w1 k d) (b : FitA w2 k ds) : FitA (w1 + 1 + w2) k (d :: ds) := by
  have := a.dep; have := b.dep; have := a.wei; have := b.wei
  refine ⟨?_, ?_, ?_, ?_, ?_⟩
  · simp only [PyData.canLayAll0, a.lay, b.lay, Bool.and_self]
  · simp only [PyData.depthAll]; omega
  · simp only [PyData.weightAll]; omega
  · simp only [PyData.intsShortAll, a.ish, b.ish, Bool.and_self]
  · simp only [PyData.showableAll, a.sho, b.sho, Bool.and_self]
theorem FitA.all {w k : Nat} : ∀ {ds : List PyData}, (∀ d ∈ ds, Fit w k d) → FitA ((w + 1) * ds.length) k ds
  | [], _ => by simpa using FitA.nil
  | d :: ds, h => by
    have z := FitA.cons (h d (by simp)) (FitA.all (ds := ds) fun e he => h e (List.mem_cons_of_mem _ he))
    have e : w + 1 + (w + 1) * ds.length = (w + 1) * (d :: ds).length := by rw [List.length_cons, Nat.mul_succ]; omega
    rw [← e]; exact z
theorem Fit.list {w k : Nat} {ds : List PyData} (f : FitA w k ds) : Fit w (k + 1) (.list ds) := by
  have := f.dep; have := f.wei
  refine ⟨?_, ?_, ?_, ?_, ?_⟩
  · simp only [PyData.canLay0, f.lay]
  · simp only [PyData.depth]; omega
  · simp only [PyData.weight]; omega
  · simp only [PyData.intsShort, f.ish]
  · simp only [PyData.showable, f.sho]
theorem Fit.tup {w k : Nat} {ds : List PyData} (f : FitA w k ds) : Fit w (k + 1) (.tuple ds) := by
  have := f.dep; have := f.wei
  refine ⟨?_, ?_, ?_, ?_, ?_⟩
  · simp only [PyData.canLay0, f.lay]
  · simp only [PyData.depth]; omega
  · simp only [PyData.weight]; omega
  · simp only [PyData.intsShort, f.ish]
  · simp only [PyData.showable, f.sho]
theorem Fit.none : Fit 0 0 .none := ⟨rfl, Nat.le_refl _, Nat.le_refl _, rfl, rfl⟩
theorem Fit.bool (b : Bool) : Fit 0 0 (.bool b) := ⟨rfl, Nat.le_refl _, Nat.le_refl _, rfl, rfl⟩
theorem Fit.str {z : Str} {w : Nat} (hz : z.length ≤ w) (ha : ∀ c ∈ z.cps.toList, c < 128) : Fit w 0 (.str z) := by
  refine ⟨?_, ?_, ?_, rfl, rfl⟩
  · simp only [PyData.canLay0, PyData.strOk]
    rw [Array.all_eq_true_iff_forall_mem]
    intro c hc
    have := ha c (by simpa using hc)
    exact decide_eq_true (by omega)
  · simp only [PyData.depth]; omega
  · simp only [PyData.weight]; exact hz
theorem Fit.up {w w' k k' : Nat} {d : PyData} (f : Fit w k d) (h1 : w ≤ w') (h2 : k ≤ k') : Fit w' k' d := by
  have := f.dep; have := f.wei
  exact ⟨f.lay, by omega, by omega, f.ish, f.sho⟩
theorem FitA.up {w w' k k' : Nat} {d : List PyData} (f : FitA w k d) (h1 : w ≤ w') (h2 : k ≤ k') : FitA w' k' d := by
  have := f.dep; have := f.wei
  exact ⟨f.lay, by omega, by omega, f.ish, f.sho⟩
end CW

namespace CW
open PySem PySem.Spec PyProof.Rows L2
/-! ## 17. Words about bits -/
/-- a text by its signs -/
abbrev T (l : List Nat) : Str := ⟨l.toArray⟩
theorem T_len (l : List Nat) : (T l).length = l.length := rfl
theorem T_cps (l : List Nat) : (T l).cps.toList = l := rfl
theorem T_inj {a b : List Nat} (h : T a = T b) : a = b := congrArg (fun z : Str => z.cps.toList) h
theorem keepA {H : Hp} {b q : Addr} {o o' : HO} (e : H b = some o) (hq : H q = none) : upd H q o' b = some o := by rw [upd_ne (ne_of_none e hq)]; exact e
def Kn (K : PySem.W.Frag) (H : Hp) (x : V) : Prop := match x with
  | .ref p => ∃ t : Ty, (t = .list ∨ t = .tuple ∨ t = .dict) ∧ TyR K H p t
  | .str z => z.length ≤ 1000
  | .non => True
  | .bl _ => True
  | .int _ => True
  | _ => False
def isInt : V → Bool
  | .int _ => true
  | _ => false
def isWidth : V → Bool
  | .int i => decide (1 ≤ i) && decide (i ≤ 100)
  | _ => false
def isBit (c : Nat) : Bool := decide (c = 48) || decide (c = 49)
def isBits : V → Bool
  | .str z => z.cps.toList.all isBit
  | _ => false
def isAddress (w : Int) : V → Bool
  | .str z => isBits (.str z) && decide ((z.length : Int) = w)
  | _ => false
def isStretch (w : Int) : V → Bool
  | .str z => isBits (.str z) && decide ((z.length : Int) ≤ w)
  | _ => false
def Bt (l : List Nat) : Prop := ∀ c ∈ l, isBit c = true
theorem Bt.all {l : List Nat} (h : Bt l) : l.all isBit = true := List.all_eq_true.mpr h
theorem Bt.ascii {l : List Nat} (h : Bt l) : ∀ c ∈ l, c < 128 := fun c hc => by
  have := h c hc
  unfold isBit at this
  simp only [Bool.or_eq_true, decide_eq_true_eq] at this
  omega
theorem Bt.take {l : List Nat} (h : Bt l) (k : Nat) : Bt (l.take k) := fun c hc => h c (List.mem_of_mem_take hc)
theorem Bt.app {a b : List Nat} (h : Bt a) (g : Bt b) : Bt (a ++ b) := fun c hc => by
  rcases List.mem_append.mp hc with z | z
  · exact h c z
  · exact g c z
def spIsInt (K : PySem.W.Frag) : Sp := fun vs H Q _ => ∃ x, vs = [x] ∧ Kn K H x ∧ Q (.bl (isInt x)) H
def spIsWidth (K : PySem.W.Frag) : Sp := fun vs H Q _ => ∃ x, vs = [x] ∧ Kn K H x ∧ Q (.bl (isWidth x)) H
def spIsBits (K : PySem.W.Frag) : Sp := fun vs H Q _ => ∃ x, vs = [x] ∧ Kn K H x ∧ Q (.bl (isBits x)) H
def spWantWidth : Sp := fun vs H Q _ => ∃ w : Int, vs = [.int w] ∧ 1 ≤ w ∧ w ≤ 100 ∧ Q .non H
def spIsAddress (K : PySem.W.Frag) : Sp := fun vs H Q _ => ∃ (w : Int) (x : V), vs = [.int w, x] ∧ 1 ≤ w ∧ w ≤ 100 ∧ Kn K H x ∧ Q (.bl (isAddress w x)) H
def spIsStretch (K : PySem.W.Frag) : Sp := fun vs H Q _ => ∃ (w : Int) (x : V), vs = [.int w, x] ∧ 1 ≤ w ∧ w ≤ 100 ∧ Kn K H x ∧ Q (.bl (isStretch w x)) H
def spWantAddress : Sp := fun vs H Q _ => ∃ (w : Int) (l : List Nat), vs = [.int w, .str (T l)] ∧ 1 ≤ w ∧ w ≤ 100 ∧ Bt l ∧ (l.length : Int) = w ∧ Q .non H
def isIntB : S := .cons (.ret (.and (.isA (.v 0) [.int]) (.not (.isA (.v 0) [.bool])))) (.nil)
def isWidthB (sp : Sp) : S := .cons (.ret (.and (.call sp (.cons (.v 0) (.nil)) (.nil) [.p 0]) (.cmp2 .LtE .LtE (.c (.int 1)) (.v 0) (.c (.int 100))))) (.nil)
def isBitsB : S := .cons (.ret (.and (.isA (.v 0) [.str]) (.bid .all (.lc (.inT false (.v 1) (.cons (.c (.str "0")) (.cons (.c (.str "1")) (.nil)))) (.v 1) (.v 0) (.nil) [1])))) (.nil)
def wantWidthB (sp : Sp) : S := .cons (.ite (.not (.call sp (.cons (.v 0) (.nil)) (.nil) [.p 0])) (.cons (.bad) (.nil)) (.nil)) (.nil)
def isAddressB (s1 s2 : Sp) : S := .cons (.ex (.call s1 (.cons (.v 0) (.nil)) (.nil) [.p 0])) (.cons (.ret (.and (.call s2 (.cons (.v 1) (.nil)) (.nil) [.p 0]) (.cmp .Eq (.bi .len (.cons (.v 1) (.nil))) (.v 0)))) (.nil))
def isStretchB (s1 s2 : Sp) : S := .cons (.ex (.call s1 (.cons (.v 0) (.nil)) (.nil) [.p 0])) (.cons (.ret (.and (.call s2 (.cons (.v 1) (.nil)) (.nil) [.p 0]) (.cmp .LtE (.bi .len (.cons (.v 1) (.nil))) (.v 0)))) (.nil))
def wantAddressB (sp : Sp) : S := .cons (.ite (.not (.call sp (.cons (.v 0) (.cons (.v 1) (.nil))) (.nil) [.p 0, .p 1])) (.cons (.bad) (.nil)) (.nil)) (.nil)
section
variable {K : PySem.W.Frag} {W : WX}
theorem rd_isInt (vs : List V) (H : Hp) (Q : VK) (R : XK) (h : spIsInt K vs H Q R) : vs.length = 1 ∧ wS K W isIntB (Dn Q) (start ["a"] vs) H := by
  obtain ⟨x, rfl, hk, q⟩ := h
  refine ⟨rfl, ?_⟩
  cases x with
  | int i => exact q
  | bl b => exact q
  | str z => exact q
  | non => exact q
  | ref p =>
    obtain ⟨t, ht, hT⟩ := hk
    refine ⟨t, ht, hT, ?_⟩
    rcases ht with rfl | rfl | rfl <;> exact q
  | _ => exact hk.elim
theorem iteAnd {a b : Bool} {Q : VK} {H : Hp} (q : Q (.bl (a && b)) H) : if a = true then Q (.bl b) H else Q (.bl false) H := by
  cases a <;> exact q
theorem rd_isWidth (vs : List V) (H : Hp) (Q : VK) (R : XK) (h : spIsWidth K vs H Q R) : vs.length = 1 ∧ wS K W (isWidthB (spIsInt K)) (Dn Q) (start ["a"] vs) H := by
  obtain ⟨x, rfl, hk, q⟩ := h
  refine ⟨rfl, x, rfl, hk, ?_⟩
  cases x with
  | int i => exact iteAnd (a := decide (1 ≤ i)) (b := decide (i ≤ 100)) q
  | ref p => exact q
  | _ => first | exact q | exact hk.elim
theorem bitIn (c : Nat) : inV (.str ⟨#[c]⟩) [.str "0", .str "1"] = isBit c := by
  show ((("0" : Str) == ⟨#[c]⟩) || ((("1" : Str) == ⟨#[c]⟩) || false)) = _
  unfold isBit
  have e0 : (("0" : Str) == ⟨#[c]⟩) = decide (c = 48) := by
    rw [Bool.eq_iff_iff]
    simp only [beq_iff_eq, decide_eq_true_eq]
    constructor
    · intro e; have := congrArg (fun z : Str => z.cps.toList) e; simpa using (List.cons.inj this).1.symm
    · intro e; rw [e]; rfl
  have e1 : (("1" : Str) == ⟨#[c]⟩) = decide (c = 49) := by
    rw [Bool.eq_iff_iff]
    simp only [beq_iff_eq, decide_eq_true_eq]
    constructor
    · intro e; have := congrArg (fun z : Str => z.cps.toList) e; simpa using (List.cons.inj this).1.symm
    · intro e; rw [e]; rfl
  rw [e0, e1, Bool.or_false]
theorem bitIn2 (c : Nat) : decide (c ∈ ("01" : Str).cps.toList) = isBit c := by
  have e : ("01" : Str).cps.toList = [48, 49] := by decide +kernel
  rw [e, Bool.eq_iff_iff]
  simp [isBit]
theorem rd_isBits (vs : List V) (H : Hp) (Q : VK) (R : XK) (h : spIsBits K vs H Q R) : vs.length = 1 ∧ wS K W isBitsB (Dn Q) (start ["a", "b"] vs) H := by
  obtain ⟨x, rfl, hk, q⟩ := h
  refine ⟨rfl, ?_⟩
  cases x with
  | str z =>
    show wE K W (.bid .all (.lc (.inT false (.v 1) (.cons (.c (.str "0")) (.cons (.c (.str "1")) .nil))) (.v 1) (.v 0) .nil [1])) [some (.str z), none] H Q
    refine all_str isBit hk rfl (fun c _ H' Q' q' => ⟨rfl, rfl, by decide, ?_⟩) q
    rw [if_neg (by decide), bitIn]
    exact q'
  | ref p =>
    obtain ⟨t, ht, hT⟩ := hk
    refine ⟨t, ht, hT, ?_⟩
    rcases ht with rfl | rfl | rfl <;> exact q
  | _ => first | exact q | exact hk.elim
theorem rd_wantWidth (vs : List V) (H : Hp) (Q : VK) (R : XK) (h : spWantWidth vs H Q R) : vs.length = 1 ∧ wS K W (wantWidthB (spIsWidth K)) (Dn Q) (start ["a"] vs) H := by
  obtain ⟨w, rfl, h1, h2, q⟩ := h
  refine ⟨rfl, _, rfl, trivial, ?_⟩
  show if (!(decide (1 ≤ w) && decide (w ≤ 100))) = true then _ else _
  rw [decide_eq_true h1, decide_eq_true h2]
  exact q
theorem rd_isAddress (vs : List V) (H : Hp) (Q : VK) (R : XK) (h : spIsAddress K vs H Q R) : vs.length = 2 ∧ wS K W (isAddressB spWantWidth (spIsBits K)) (Dn Q) (start ["a", "b"] vs) H := by
  obtain ⟨w, x, rfl, h1, h2, hk, q⟩ := h
  refine ⟨rfl, w, rfl, h1, h2, x, rfl, hk, ?_⟩
  cases x with
  | str z =>
    have q : Q (.bl (isBits (.str z) && decide ((z.length : Int) = w))) H := q
    show if isBits (.str z) = true then _ else _
    split
    · rename_i e
      rw [e, Bool.true_and] at q
      refine ⟨Nat.le_trans hk (by decide), rfl, ?_⟩
      have e2 : decide (V.int (z.length : Int) = V.int w) = decide ((z.length : Int) = w) := by rw [Bool.eq_iff_iff]; simp
      rw [e2]
      exact q
    · rename_i e; rw [(Bool.not_eq_true _).mp e] at q; exact q
  | _ => first | exact q | exact hk.elim
theorem rd_isStretch (vs : List V) (H : Hp) (Q : VK) (R : XK) (h : spIsStretch K vs H Q R) : vs.length = 2 ∧ wS K W (isStretchB spWantWidth (spIsBits K)) (Dn Q) (start ["a", "b"] vs) H := by
  obtain ⟨w, x, rfl, h1, h2, hk, q⟩ := h
  refine ⟨rfl, w, rfl, h1, h2, x, rfl, hk, ?_⟩
  cases x with
  | str z =>
    have q : Q (.bl (isBits (.str z) && decide ((z.length : Int) ≤ w))) H := q
    show if isBits (.str z) = true then _ else _
    split
    · rename_i e
      rw [e, Bool.true_and] at q
      exact ⟨Nat.le_trans hk (by decide), q⟩
    · rename_i e; rw [(Bool.not_eq_true _).mp e] at q; exact q
  | _ => first | exact q | exact hk.elim
theorem isAddress_T {l : List Nat} {w : Int} (h : Bt l) (hl : (l.length : Int) = w) : isAddress w (.str (T l)) = true := by
  show (l.all isBit && decide ((l.length : Int) = w)) = true
  rw [h.all, decide_eq_true hl]; rfl
theorem isStretch_T {l : List Nat} {w : Int} (h : Bt l) (hl : (l.length : Int) ≤ w) : isStretch w (.str (T l)) = true := by
  show (l.all isBit && decide ((l.length : Int) ≤ w)) = true
  rw [h.all, decide_eq_true hl]; rfl
theorem rd_wantAddress (vs : List V) (H : Hp) (Q : VK) (R : XK) (h : spWantAddress vs H Q R) : vs.length = 2 ∧ wS K W (wantAddressB (spIsAddress K)) (Dn Q) (start ["a", "b"] vs) H := by
  obtain ⟨w, l, rfl, h1, h2, hb, hl, q⟩ := h
  refine ⟨rfl, w, _, rfl, h1, h2, (by show (T l).length ≤ 1000; rw [T_len]; omega), ?_⟩
  show if (!isAddress w (.str (T l))) = true then _ else _
  rw [isAddress_T hb hl]
  exact q
end
/-! ### slices and common beginnings -/
theorem cut_to (l : List Nat) (k : Nat) : cutS (T l) none (some (k : Int)) = T (l.take k) := by
  show (⟨((l.drop 0).take (HT.sIx l.length l.length (some (k : Int)) - 0)).toArray⟩ : Str) = _
  have e : HT.sIx l.length l.length (some (k : Int)) = min k l.length := by
    show (if (k : Int) < 0 then ((k : Int) + (l.length : Int)).toNat else min (k : Int).toNat l.length) = _
    rw [if_neg (by omega), Int.toNat_natCast]
  rw [e, Nat.sub_zero, List.drop_zero]
  congr 2
  by_cases h : k ≤ l.length
  · rw [Nat.min_eq_left h]
  · rw [Nat.min_eq_right (by omega), List.take_length, List.take_of_length_le (by omega)]
def lcp : List Nat → List Nat → List Nat
  | a :: r, b :: s => if a = b then a :: lcp r s else []
  | _, _ => []
theorem lcp_le : ∀ a b : List Nat, (lcp a b).length ≤ a.length ∧ (lcp a b).length ≤ b.length
  | [], b => by simp [lcp]
  | a :: r, [] => by simp [lcp]
  | a :: r, b :: s => by
    have := lcp_le r s
    unfold lcp
    split
    · simp only [List.length_cons]; omega
    · simp
theorem lcp_comm : ∀ a b : List Nat, (lcp a b).length = (lcp b a).length
  | [], [] => rfl
  | [], b :: s => by simp [lcp]
  | a :: r, [] => by simp [lcp]
  | a :: r, b :: s => by
    have := lcp_comm r s
    unfold lcp
    by_cases h : a = b
    · subst h; simp [this]
    · rw [if_neg h, if_neg (fun e => h e.symm)]
theorem lcp_self : ∀ a : List Nat, lcp a a = a
  | [] => rfl
  | a :: r => by unfold lcp; rw [if_pos rfl, lcp_self r]
/-- the first so many signs are alike just up to the common beginning -/
theorem take_lcp : ∀ (a b : List Nat) (k : Nat), k ≤ a.length → k ≤ b.length → (a.take k = b.take k ↔ k ≤ (lcp a b).length)
  | _, _, 0, _, _ => by simp
  | [], _, k + 1, h, _ => by simp at h
  | _ :: _, [], k + 1, _, h => by simp at h
  | a :: r, b :: s, k + 1, h1, h2 => by
    have ih := take_lcp r s k (by simpa using h1) (by simpa using h2)
    rw [List.take_succ_cons, List.take_succ_cons]
    unfold lcp
    by_cases e : a = b
    · subst e
      rw [if_pos rfl, List.length_cons]
      constructor
      · intro z; have := ih.mp (List.cons.inj z).2; omega
      · intro z; rw [ih.mpr (by omega)]
    · rw [if_neg e]
      constructor
      · intro z; exact absurd (List.cons.inj z).1 e
      · intro z; simp at z
theorem lcp_take (a b : List Nat) : lcp a b = a.take (lcp a b).length := by
  induction a generalizing b with
  | nil => simp [lcp]
  | cons x r ih =>
    cases b with
    | nil => simp [lcp]
    | cons y s =>
      unfold lcp
      by_cases e : x = y
      · rw [if_pos e, List.length_cons, List.take_succ_cons, ← ih s]
      · rw [if_neg e]; rfl
end CW

namespace CW
open PySem PySem.Spec PyProof.Rows L2
/-! ## 18. The law itself: each cell by its pot -/
def spRight : Sp := fun vs H Q _ => ∃ p : Addr, vs = [.ref p] ∧ Pot H p ∧ ∀ H', Chg p H H' → Q (.bl true) H'
def spLaw (K : PySem.W.Frag) : Sp := fun vs H Q _ => ∃ (a : Addr) (ns : List Int), vs = [.ref a] ∧ SqL K H a (ns.map V.int) ∧ ns.length ≤ 63 ∧ ∀ H', Q (.bl true) H'
def lawB (c : Int) (sr sp : Sp) : S := .cons (.ret (.bid .all (.lc (.call sr (.cons (.call sp (.cons (.v 0) (.cons (.v 1) (.nil))) (.nil) [.p 0, .p 1]) (.nil)) (.nil) [.p 0]) (.v 1) (.rng1 (.cons (.bi .max (.cons (.c (.int 1)) (.cons (.bi .min (.cons (.c (.int c)) (.cons (.bi .len (.cons (.v 0) (.nil))) (.nil)))) (.nil)))) (.nil))) (.nil) [1]))) (.nil)
theorem rd_lawB {K : PySem.W.Frag} {W : WX} {c : Int} (hc : 0 ≤ c ∧ c ≤ 60) (vs : List V) (H : Hp) (Q : VK) (R : XK) (h : spLaw K vs H Q R) : vs.length = 1 ∧ wS K W (lawB c spRight (spPot K)) (Dn Q) (start ["a", "b"] vs) H := by
  obtain ⟨a, ns, rfl, hs, hl, q⟩ := h
  refine ⟨rfl, Or.inl ⟨_, hs, ?_⟩⟩
  have hlen : (ns.map V.int).length = ns.length := List.length_map ..
  obtain ⟨m, hm, hm2⟩ : ∃ m : Int, (if (if ((ns.map V.int).length : Int) < c then ((ns.map V.int).length : Int) else c) > 1 then (if ((ns.map V.int).length : Int) < c then ((ns.map V.int).length : Int) else c) else 1) = m ∧ 0 ≤ m ∧ m ≤ 63 := ⟨_, rfl, by split <;> split <;> omega, by split <;> split <;> omega⟩
  refine ⟨_, rfl, ?_, ?_, ?_⟩
  · rw [hm]; omega
  · rw [hm]; omega
  rw [hm]
  intro D hD
  refine lc_range (lo := 0) (n := m.toNat) (vs := [1]) (σ := [some (.ref a), none]) (Qd := fun H1 => ∃ D' acc, V.ref D = .ref D' ∧ H1 D' = some (.lst acc) ∧ rBi K .all [.ref D'] H1 fun r H2 => H2 D' = some (.lst acc) ∧ Q r (dropA H2 D'))
    (fun k H2 => H2 D = some (.lst ((List.replicate k true).map V.bl)) ∧ ∀ b o, H b = some o → H2 b = some o) ⟨upd_same, fun b o e => keepA e hD⟩ (fun k H2 hk h => ?_) (fun H2 h => ?_)
  · obtain ⟨hd, old⟩ := h
    have hs2 : SqL K H2 a (ns.map V.int) := Grow.sql old hs
    refine ⟨rfl, ?_⟩
    refine ⟨a, ns, _, rfl, hs2, by omega, by omega, fun p x y hp x0 y0 y1 => ?_⟩
    refine ⟨p, rfl, ⟨x, y, upd_same, x0, y0, y1⟩, fun H3 ch => ?_⟩
    have hd3 := ch.old D _ (ne_of_none hd hp) (keepA hd hp)
    refine ⟨_, hd3, ?_, ?_, fun b o e => ?_⟩
    · have hz : (sizeLine : Nat) = 16777216 := sizeLine_eq
      simp only [List.length_map, List.length_replicate]; omega
    · rw [upd_same, List.replicate_succ', List.map_append]; rfl
    · have e2 := old b o e
      rw [upd_ne (ne_of_none e hD)]
      exact ch.old b o (ne_of_none e2 hp) (keepA e2 hp)
  · obtain ⟨hd, old⟩ := h
    refine ⟨D, _, rfl, hd, List.replicate m.toNat true, SqL.of hd, hd, ?_⟩
    have e : (List.replicate m.toNat true).all id = true := by
      rw [List.all_eq_true]; intro b hb; exact (List.eq_of_mem_replicate hb)
    rw [e]
    exact q _
end CW

namespace CW
open PySem PySem.Spec PyProof.Rows L2
/-! ## 19. Cells: the plain law -/
theorem ltc_irr : ∀ a : List Nat, ltCps a a = false
  | [] => rfl
  | x :: r => by simp [ltCps, ltc_irr r]
theorem ltc_trans : ∀ {a b c : List Nat}, ltCps a b = true → ltCps b c = true → ltCps a c = true
  | [], [], _, h, _ => by simp [ltCps] at h
  | _ :: _, [], _, h, _ => by simp [ltCps] at h
  | _, _ :: _, [], _, h => by simp [ltCps] at h
  | [], _ :: _, _ :: _, _, _ => rfl
  | x :: r, y :: s, z :: t, h1, h2 => by
    simp only [ltCps, Bool.or_eq_true, decide_eq_true_eq, Bool.and_eq_true, beq_iff_eq] at h1 h2 ⊢
    rcases h1 with h1 | ⟨rfl, h1⟩ <;> rcases h2 with h2 | ⟨rfl, h2⟩
    · left; omega
    · left; omega
    · left; omega
    · right; exact ⟨rfl, ltc_trans h1 h2⟩
theorem ltc_total : ∀ {a b : List Nat}, ltCps a b = false → ltCps b a = false → a = b
  | [], [], _, _ => rfl
  | [], _ :: _, h, _ => by simp [ltCps] at h
  | _ :: _, [], _, h => by simp [ltCps] at h
  | x :: r, y :: s, h1, h2 => by
    simp only [ltCps, Bool.or_eq_false_iff, decide_eq_false_iff_not, Bool.and_eq_false_iff, beq_eq_false_iff_ne] at h1 h2
    have e : x = y := by omega
    subst e
    rw [ltc_total (h1.2.resolve_left (fun h => h rfl)) (h2.2.resolve_left (fun h => h rfl))]
theorem pre_ltc : ∀ {a b : List Nat}, a <+: b → a ≠ b → ltCps a b = true
  | [], [], _, h => absurd rfl h
  | [], _ :: _, _, _ => rfl
  | _ :: _, [], h, _ => by simp at h
  | x :: r, y :: s, h, hn => by
    obtain ⟨rfl, h'⟩ := List.cons_prefix_cons.mp h
    simp only [ltCps, Bool.or_eq_true, Bool.and_eq_true, beq_self_eq_true, true_and]
    right
    exact pre_ltc h' (fun e => hn (by rw [e]))
/-- between a beginning and the whole -/
theorem ltc_conv : ∀ {q t s : List Nat}, q <+: s → ltCps t q = false → ltCps t s = true → q <+: t
  | [], _, _, _, _, _ => List.nil_prefix
  | x :: q, [], _, _, h, _ => by simp [ltCps] at h
  | x :: q, y :: t, [], h, _, _ => by simp at h
  | x :: q, y :: t, z :: s, h1, h2, h3 => by
    obtain ⟨rfl, h1'⟩ := List.cons_prefix_cons.mp h1
    simp only [ltCps, Bool.or_eq_false_iff, decide_eq_false_iff_not, Bool.and_eq_false_iff, beq_eq_false_iff_ne] at h2
    simp only [ltCps, Bool.or_eq_true, decide_eq_true_eq, Bool.and_eq_true, beq_iff_eq] at h3
    rcases h3 with h3 | ⟨rfl, h3⟩
    · exact absurd h3 h2.1
    · exact List.cons_prefix_cons.mpr ⟨rfl, ltc_conv h1' (h2.2.resolve_left (fun h => h rfl)) h3⟩
/-- what begins with unlike beginnings -/
theorem ltc_div : ∀ {q s a b : List Nat}, ltCps q s = true → ¬ q <+: s → q <+: a → s <+: b → ltCps a b = true
  | [], _, _, _, _, h, _, _ => absurd List.nil_prefix h
  | x :: q, [], _, _, h, _, _, _ => by simp [ltCps] at h
  | x :: q, y :: s, [], _, _, _, h, _ => by simp at h
  | x :: q, y :: s, z :: a, [], _, _, _, h => by simp at h
  | x :: q, y :: s, z :: a, u :: b, h1, h2, h3, h4 => by
    obtain ⟨rfl, h3'⟩ := List.cons_prefix_cons.mp h3
    obtain ⟨rfl, h4'⟩ := List.cons_prefix_cons.mp h4
    simp only [ltCps, Bool.or_eq_true, decide_eq_true_eq, Bool.and_eq_true, beq_iff_eq] at h1 ⊢
    rcases h1 with h1 | ⟨rfl, h1⟩
    · left; exact h1
    · right; exact ⟨rfl, ltc_div h1 (fun h => h2 (List.cons_prefix_cons.mpr ⟨rfl, h⟩)) h3' h4'⟩
/-! ### numbers of rows of bits -/
def num : List Nat → Nat
  | [] => 0
  | c :: l => (if c = 49 then 2 ^ l.length else 0) + num l
theorem num_lt : ∀ l : List Nat, num l < 2 ^ l.length
  | [] => by simp [num]
  | c :: l => by
    have := num_lt l
    have e : 2 ^ (c :: l).length = 2 ^ l.length * 2 := by rw [List.length_cons, Nat.pow_succ]
    rw [e]
    unfold num
    split <;> omega
theorem num_app : ∀ a b : List Nat, num (a ++ b) = num a * 2 ^ b.length + num b
  | [], b => by simp [num]
  | c :: a, b => by
    have ih := num_app a b
    show (if c = 49 then 2 ^ (a ++ b).length else 0) + num (a ++ b) = ((if c = 49 then 2 ^ a.length else 0) + num a) * 2 ^ b.length + num b
    rw [ih, Nat.add_mul, List.length_append, Nat.pow_add]
    split <;> omega
theorem num_snoc (a : List Nat) (c : Nat) : num (a ++ [c]) = 2 * num a + (if c = 49 then 1 else 0) := by
  rw [num_app]
  simp [num]
  omega
theorem num_mono : ∀ {a b : List Nat}, a.length = b.length → Bt a → Bt b → ltCps a b = true → num a < num b
  | [], [], _, _, _, h => by simp [ltCps] at h
  | [], _ :: _, h, _, _, _ => by simp at h
  | _ :: _, [], h, _, _, _ => by simp at h
  | x :: a, y :: b, hl, ha, hb, h => by
    have hl' : a.length = b.length := by simpa using hl
    simp only [ltCps, Bool.or_eq_true, decide_eq_true_eq, Bool.and_eq_true, beq_iff_eq] at h
    have bx := ha x (by simp)
    have by' := hb y (by simp)
    simp only [isBit, Bool.or_eq_true, decide_eq_true_eq] at bx by'
    show (if x = 49 then 2 ^ a.length else 0) + num a < (if y = 49 then 2 ^ b.length else 0) + num b
    rcases h with h | ⟨rfl, h⟩
    · have : x = 48 ∧ y = 49 := by omega
      rw [this.1, this.2]
      have := num_lt a
      rw [hl'] at this
      simp; omega
    · have := num_mono hl' (fun c hc => ha c (by simp [hc])) (fun c hc => hb c (by simp [hc])) h
      rw [hl']; omega
theorem num_inj {a b : List Nat} (hl : a.length = b.length) (ha : Bt a) (hb : Bt b) (h : num a = num b) : a = b := by
  refine ltc_total ?_ ?_
  · cases e : ltCps a b
    · rfl
    · have := num_mono hl ha hb e; omega
  · cases e : ltCps b a
    · rfl
    · have := num_mono hl.symm hb ha e; omega
def szW (w : Nat) (s : List Nat) : Nat := 2 ^ (w - s.length)
def bgW (w : Nat) (s : List Nat) : Nat := num s * 2 ^ (w - s.length)
theorem szW_pos (w : Nat) (s : List Nat) : 0 < szW w s := Nat.pow_pos (by decide)
theorem pre_iff {w : Nat} {s a : List Nat} (hs : Bt s) (ha : Bt a) (hl : a.length = w) (hw : s.length ≤ w) : s <+: a ↔ bgW w s ≤ num a ∧ num a < bgW w s + szW w s := by
  have e : a = a.take s.length ++ a.drop s.length := (List.take_append_drop _ _).symm
  have ld : (a.drop s.length).length = w - s.length := by rw [List.length_drop, hl]
  have lt : (a.take s.length).length = s.length := by rw [List.length_take]; omega
  have en : num a = num (a.take s.length) * 2 ^ (w - s.length) + num (a.drop s.length) := by rw [← ld, ← num_app, ← e]
  have nd : num (a.drop s.length) < 2 ^ (w - s.length) := by rw [← ld]; exact num_lt _
  unfold bgW szW
  constructor
  · intro h
    have et : a.take s.length = s := (List.prefix_iff_eq_take.mp h).symm
    rw [et] at en
    omega
  · intro ⟨h1, h2⟩
    have et : num (a.take s.length) = num s := by
      have p : 0 < 2 ^ (w - s.length) := Nat.pow_pos (by decide)
      generalize 2 ^ (w - s.length) = z at *
      rw [en] at h1 h2
      have a1 : num s * z < (num (a.take s.length) + 1) * z := by rw [Nat.add_mul]; omega
      have a2 : num (a.take s.length) * z < (num s + 1) * z := by rw [Nat.add_mul]; omega
      have b1 := Nat.lt_of_mul_lt_mul_right a1
      have b2 := Nat.lt_of_mul_lt_mul_right a2
      omega
    have := num_inj lt (ha.take _) hs et
    exact List.prefix_iff_eq_take.mpr this.symm
theorem pre_end {w : Nat} {p s : List Nat} (h : p <+: s) (hw : s.length ≤ w) : bgW w p ≤ bgW w s ∧ bgW w s + szW w s ≤ bgW w p + szW w p := by
  obtain ⟨t, rfl⟩ := h
  rw [List.length_append] at hw
  have e : w - p.length = t.length + (w - (p ++ t).length) := by rw [List.length_append]; omega
  unfold bgW szW
  rw [e, num_app, Nat.pow_add]
  have := num_lt t
  generalize 2 ^ (w - (p ++ t).length) = z at *
  have h1 : (num p * 2 ^ t.length + num t) * z = num p * (2 ^ t.length * z) + num t * z := by rw [Nat.add_mul, Nat.mul_assoc]
  have h2 : (num t + 1) * z ≤ 2 ^ t.length * z := Nat.mul_le_mul_right z this
  rw [Nat.add_mul] at h2
  omega
/-! ### all addresses of a width -/
def allW : Nat → List (List Nat)
  | 0 => [[]]
  | n + 1 => (allW n).flatMap fun r => [r ++ [48], r ++ [49]]
theorem allW_mem : ∀ {n : Nat} {a : List Nat}, a ∈ allW n ↔ a.length = n ∧ Bt a
  | 0, a => by
    simp only [allW, List.mem_singleton, List.length_eq_zero_iff]
    exact ⟨fun e => ⟨e, by subst e; exact fun c hc => nomatch hc⟩, fun e => e.1⟩
  | n + 1, a => by
    simp only [allW, List.mem_flatMap, List.mem_cons, List.not_mem_nil, or_false]
    constructor
    · rintro ⟨r, hr, h | h⟩
      all_goals
        obtain ⟨h1, h2⟩ := allW_mem.mp hr
        subst h
        refine ⟨by simp [h1], Bt.app h2 fun c hc => ?_⟩
        rw [List.mem_singleton.mp hc]; rfl
    · intro ⟨h1, h2⟩
      have hne : a ≠ [] := by intro e; subst e; simp at h1
      have e := List.dropLast_concat_getLast hne
      have bl := h2 _ (List.getLast_mem hne)
      refine ⟨a.dropLast, allW_mem.mpr ⟨by rw [List.length_dropLast]; omega, fun c hc => h2 c (List.dropLast_subset _ hc)⟩, ?_⟩
      simp only [isBit, Bool.or_eq_true, decide_eq_true_eq] at bl
      rcases bl with bl | bl
      · left; rw [← bl, e]
      · right; rw [← bl, e]
theorem flat2 : ∀ n : Nat, (List.range n).flatMap (fun k => [2 * k, 2 * k + 1]) = List.range (2 * n)
  | 0 => rfl
  | n + 1 => by
    rw [List.range_succ, List.flatMap_append, flat2 n, show 2 * (n + 1) = 2 * n + 1 + 1 by omega, List.range_succ, List.range_succ]
    simp
theorem allW_num : ∀ n : Nat, (allW n).map num = List.range (2 ^ n)
  | 0 => rfl
  | n + 1 => by
    have ih := allW_num n
    show ((allW n).flatMap fun r => [r ++ [48], r ++ [49]]).map num = _
    rw [Nat.pow_succ, Nat.mul_comm, ← flat2, ← ih, List.map_flatMap, List.flatMap_map]
    congr 1
    funext r
    simp only [List.map_cons, List.map_nil, num_snoc]
    rfl
theorem allW_len (n : Nat) : (allW n).length = 2 ^ n := by
  have := congrArg List.length (allW_num n)
  simpa using this
theorem allW_ix {n i : Nat} {a : List Nat} (h : (allW n)[i]? = some a) : num a = i := by
  have e : ((allW n).map num)[i]? = some (num a) := by rw [List.getElem?_map, h]; rfl
  rw [allW_num] at e
  obtain ⟨h1, h2⟩ := List.getElem?_eq_some_iff.mp e
  simpa using h2.symm
theorem allW_at {n i : Nat} (h : i < 2 ^ n) : ∃ a, (allW n)[i]? = some a ∧ num a = i ∧ a ∈ allW n := by
  have hl : i < (allW n).length := by rw [allW_len]; exact h
  exact ⟨_, List.getElem?_eq_getElem hl, allW_ix (List.getElem?_eq_getElem hl), List.getElem_mem hl⟩
theorem cnt_rng (b z : Nat) : ∀ N : Nat, (List.range N).countP (fun n => decide (b ≤ n ∧ n < b + z)) = min N (b + z) - b
  | 0 => by simp
  | N + 1 => by
    rw [List.range_succ, List.countP_append, cnt_rng b z N]
    by_cases h : b ≤ N ∧ N < b + z
    · have e : [N].countP (fun n => decide (b ≤ n ∧ n < b + z)) = 1 := by simp [h]
      rw [e]; omega
    · have e : [N].countP (fun n => decide (b ≤ n ∧ n < b + z)) = 0 := by
        rw [List.countP_eq_zero]
        intro x hx
        have : x = N := by simpa using hx
        subst this
        simpa using h
      rw [e]; omega
theorem bg_end {w : Nat} {s : List Nat} (hw : s.length ≤ w) : bgW w s + szW w s ≤ 2 ^ w := by
  have := pre_end (w := w) (p := []) (s := s) List.nil_prefix hw
  simpa [bgW, szW, num] using this.2
/-- how many hold a stretch -/
theorem cnt_pre {w : Nat} {s : List Nat} (hs : Bt s) (hw : s.length ≤ w) : (allW w).countP (fun a => s.isPrefixOf a) = szW w s := by
  have e : (allW w).countP (fun a => s.isPrefixOf a) = (allW w).countP (fun a => decide (bgW w s ≤ num a ∧ num a < bgW w s + szW w s)) := by
    refine List.countP_congr fun a ha => ?_
    obtain ⟨h1, h2⟩ := allW_mem.mp ha
    rw [List.isPrefixOf_iff_prefix, decide_eq_true_eq]
    exact pre_iff hs h2 h1 hw
  rw [e]
  have e2 : (allW w).countP (fun a => decide (bgW w s ≤ num a ∧ num a < bgW w s + szW w s)) = ((allW w).map num).countP (fun n => decide (bgW w s ≤ n ∧ n < bgW w s + szW w s)) := by
    rw [List.countP_map]; rfl
  rw [e2, allW_num, cnt_rng]
  have := bg_end (w := w) (s := s) hw
  omega
/-! ### cells -/
def cell (L : List (List Nat)) (p a : List Nat) : Bool := p.isPrefixOf a && L.all fun q => !(p.isPrefixOf q && decide (q ≠ p) && q.isPrefixOf a)
theorem cell_iff {L : List (List Nat)} {p a : List Nat} : cell L p a = true ↔ p <+: a ∧ ∀ q ∈ L, p <+: q → q ≠ p → ¬ q <+: a := by
  unfold cell
  simp only [Bool.and_eq_true, List.all_eq_true, Bool.not_eq_true', ← Bool.not_eq_true, List.isPrefixOf_iff_prefix, decide_eq_true_eq]
  constructor
  · rintro ⟨h1, h2⟩
    exact ⟨h1, fun q hq a1 a2 a3 => h2 q hq ⟨⟨a1, a2⟩, a3⟩⟩
  · rintro ⟨h1, h2⟩
    exact ⟨h1, fun q hq z => h2 q hq z.1.1 z.1.2 z.2⟩
/-- what is left of a stretch: how many, and where they begin -/
structure Left (w : Nat) (L : List (List Nat)) (p : List Nat) (m st : Nat) : Prop where
  cnt : m = (allW w).countP (cell L p)
  lo : ∀ a ∈ allW w, cell L p a = true → st ≤ num a
  hit : st = bgW w p + szW w p ∨ ∃ a ∈ allW w, cell L p a = true ∧ num a = st
theorem countP_split {α : Type} (P P' I : α → Bool) : ∀ l : List α, (∀ a ∈ l, P a = (P' a || I a)) → (∀ a ∈ l, P' a = true → I a = false) → l.countP P = l.countP P' + l.countP I
  | [], _, _ => rfl
  | a :: l, h1, h2 => by
    have ih := countP_split P P' I l (fun b hb => h1 b (by simp [hb])) (fun b hb => h2 b (by simp [hb]))
    simp only [List.countP_cons, ih]
    have e1 := h1 a (by simp)
    have e2 := h2 a (by simp)
    cases hp : P' a <;> cases hi : I a <;> simp_all <;> omega
section
variable {w : Nat} {L : List (List Nat)} {p s : List Nat}
theorem cell_more {a : List Nat} : cell (L ++ [s]) p a = true ↔ cell L p a = true ∧ (p <+: s → s ≠ p → ¬ s <+: a) := by
  rw [cell_iff, cell_iff]
  constructor
  · rintro ⟨h1, h2⟩
    exact ⟨⟨h1, fun q hq => h2 q (by simp [hq])⟩, h2 s (by simp)⟩
  · rintro ⟨⟨h1, h2⟩, h3⟩
    refine ⟨h1, fun q hq => ?_⟩
    rcases List.mem_append.mp hq with z | z
    · exact h2 q z
    · have : q = s := by simpa using z
      subst this; exact h3
theorem Left.init (hs : Bt s) (hw : s.length ≤ w) (lts : ∀ q ∈ L, ltCps q s = true) : Left w (L ++ [s]) s (szW w s) (bgW w s) := by
  have e : ∀ a, cell (L ++ [s]) s a = true ↔ s <+: a := fun a => by
    rw [cell_iff]
    refine ⟨fun h => h.1, fun h => ⟨h, fun q hq h1 h2 => ?_⟩⟩
    rcases List.mem_append.mp hq with z | z
    · have := pre_ltc h1 (fun e => h2 e.symm)
      have := ltc_trans this (lts q z)
      rw [ltc_irr] at this; cases this
    · exact absurd (by simpa using z) h2
  refine ⟨?_, fun a ha h => ?_, ?_⟩
  · rw [← cnt_pre hs hw]
    refine List.countP_congr fun a _ => ?_
    rw [List.isPrefixOf_iff_prefix, e]
  · obtain ⟨h1, h2⟩ := allW_mem.mp ha
    exact ((pre_iff hs h2 h1 hw).mp ((e a).mp h)).1
  · right
    have hb := bg_end (w := w) (s := s) hw
    have hz := szW_pos w s
    obtain ⟨a, _, h2, h3⟩ := allW_at (n := w) (i := bgW w s) (by omega)
    obtain ⟨h4, h5⟩ := allW_mem.mp h3
    exact ⟨a, h3, (e a).mpr ((pre_iff hs h5 h4 hw).mpr (by omega)), h2⟩
theorem Left.other {m st : Nat} {q : List Nat} (hq : q ≠ p) (hp : p ∈ L) (pre : p <+: s) (top : q <+: s → q.length ≤ p.length) (h : Left w L q m st) : Left w (L ++ [s]) q m st := by
  have e : ∀ a, cell (L ++ [s]) q a = cell L q a := fun a => by
    rw [Bool.eq_iff_iff, cell_more]
    refine ⟨fun h => h.1, fun h => ⟨h, fun h1 _ h3 => ?_⟩⟩
    obtain ⟨_, h5⟩ := cell_iff.mp h
    have hqp : q <+: p := List.prefix_of_prefix_length_le h1 pre (top h1)
    exact h5 p hp hqp (fun e => hq e.symm) (pre.trans h3)
  refine ⟨?_, fun a ha hc => h.lo a ha (by rw [← e]; exact hc), ?_⟩
  · rw [h.cnt]; exact List.countP_congr fun a _ => by rw [e]
  · rcases h.hit with z | ⟨a, h1, h2, h3⟩
    · exact .inl z
    · exact .inr ⟨a, h1, by rw [e]; exact h2, h3⟩
theorem Left.step {m st : Nat} (hL : ∀ q ∈ L, Bt q ∧ q.length ≤ w) (hs : Bt s) (hw : s.length ≤ w) (lts : ∀ q ∈ L, ltCps q s = true) (hp : p ∈ L) (pre : p <+: s) (top : ∀ q ∈ L, q <+: s → q.length ≤ p.length) (h : Left w L p m st) :
    szW w s ≤ m ∧ Left w (L ++ [s]) p (m - szW w s) (if st = bgW w s then bgW w s + szW w s else st) := by
  have hps : s ≠ p := fun e => by have := lts p hp; rw [e, ltc_irr] at this; cases this
  have far : ∀ q ∈ L, p <+: q → q ≠ p → ∀ a b : List Nat, a.length = b.length → q <+: a → s <+: b → ltCps a b = true := by
    intro q hq h1 h2 a b _ ha hb
    refine ltc_div (lts q hq) (fun hqs => ?_) ha hb
    have hl := top q hq hqs
    exact h2 (List.prefix_of_prefix_length_le hqs pre hl |>.eq_of_length_le (h1.length_le))
  have inn : ∀ a, s <+: a → cell L p a = true := by
    intro a ha
    rw [cell_iff]
    refine ⟨pre.trans ha, fun q hq h1 h2 h3 => ?_⟩
    have := far q hq h1 h2 a a rfl h3 ha
    rw [ltc_irr] at this; cases this
  have e : ∀ a, cell (L ++ [s]) p a = true ↔ cell L p a = true ∧ ¬ s <+: a := fun a => by
    rw [cell_more]
    exact ⟨fun h => ⟨h.1, h.2 pre hps⟩, fun h => ⟨h.1, fun _ _ => h.2⟩⟩
  have sum : m = (allW w).countP (cell (L ++ [s]) p) + szW w s := by
    rw [h.cnt, ← cnt_pre hs hw]
    refine countP_split _ _ _ _ (fun a _ => ?_) (fun a _ hc => ?_)
    · rw [Bool.eq_iff_iff, Bool.or_eq_true, e, List.isPrefixOf_iff_prefix]
      constructor
      · intro hc
        by_cases hsa : s <+: a
        · exact .inr hsa
        · exact .inl ⟨hc, hsa⟩
      · rintro (hc | hc)
        · exact hc.1
        · exact inn a hc
    · have := ((e a).mp hc).2
      exact (Bool.not_eq_true _).mp fun z => this (List.isPrefixOf_iff_prefix.mp z)
  have hb := bg_end (w := w) (s := s) hw
  have hz := szW_pos w s
  have hpe := pre_end pre hw
  obtain ⟨a0, _, hn0, hm0⟩ := allW_at (n := w) (i := bgW w s) (by omega)
  obtain ⟨l0, b0⟩ := allW_mem.mp hm0
  have hs0 : s <+: a0 := (pre_iff hs b0 l0 hw).mpr (by omega)
  have st0 : st ≤ bgW w s := by rw [← hn0]; exact h.lo a0 hm0 (inn a0 hs0)
  refine ⟨by omega, ⟨by omega, fun a ha hc => ?_, ?_⟩⟩
  · obtain ⟨h1, h2⟩ := (e a).mp hc
    have := h.lo a ha h1
    obtain ⟨l1, b1⟩ := allW_mem.mp ha
    have hno : ¬ (bgW w s ≤ num a ∧ num a < bgW w s + szW w s) := fun z => h2 ((pre_iff hs b1 l1 hw).mpr z)
    split <;> omega
  · split
    · rename_i hst
      by_cases hend : bgW w s + szW w s = bgW w p + szW w p
      · exact .inl hend
      · right
        have hbp := bg_end (w := w) (s := p) (hL p hp).2
        obtain ⟨a, _, hn, hm⟩ := allW_at (n := w) (i := bgW w s + szW w s) (by omega)
        obtain ⟨l1, b1⟩ := allW_mem.mp hm
        have hpa : p <+: a := (pre_iff (hL p hp).1 b1 l1 (hL p hp).2).mpr (by omega)
        have hsa : ¬ s <+: a := fun z => by have := (pre_iff hs b1 l1 hw).mp z; omega
        refine ⟨a, hm, (e a).mpr ⟨cell_iff.mpr ⟨hpa, fun q hq h1 h2 h3 => ?_⟩, hsa⟩, hn⟩
        have := num_mono (l1.trans l0.symm) b1 b0 (far q hq h1 h2 a a0 (l1.trans l0.symm) h3 hs0)
        omega
    · rename_i hst
      rcases h.hit with z | ⟨a, h1, h2, h3⟩
      · exact .inl z
      · refine .inr ⟨a, h1, (e a).mpr ⟨h2, fun hsa => ?_⟩, h3⟩
        obtain ⟨l1, b1⟩ := allW_mem.mp h1
        have := (pre_iff hs b1 l1 hw).mp hsa
        omega
end
end CW

namespace CW
open PySem PySem.Spec PyProof.Rows L2
/-! ### the stretches and "", sorted -/
structure IsS (xs ss : List (List Nat)) : Prop where
  mem : ∀ x, x ∈ ss ↔ x = [] ∨ x ∈ xs
  ord : ss.Pairwise (fun a b => ltCps a b = true)
theorem ord_uniq : ∀ {s t : List (List Nat)}, s.Pairwise (fun a b => ltCps a b = true) → t.Pairwise (fun a b => ltCps a b = true) → (∀ x, x ∈ s ↔ x ∈ t) → s = t
  | [], [], _, _, _ => rfl
  | [], y :: t, _, _, h => by have := (h y).mpr (by simp); simp at this
  | x :: s, [], _, _, h => by have := (h x).mp (by simp); simp at this
  | x :: s, y :: t, h1, h2, h => by
    rw [List.pairwise_cons] at h1 h2
    have e : x = y := by
      rcases List.mem_cons.mp ((h x).mp (by simp)) with z | z
      · exact z
      · rcases List.mem_cons.mp ((h y).mpr (by simp)) with z2 | z2
        · exact z2.symm
        · have := ltc_trans (h1.1 y z2) (h2.1 x z)
          rw [ltc_irr] at this; cases this
    subst e
    rw [ord_uniq h1.2 h2.2 fun z => ?_]
    have nx : ∀ z ∈ s, z ≠ x := fun z hz e => by have := h1.1 z hz; rw [e, ltc_irr] at this; cases this
    have ny : ∀ z ∈ t, z ≠ x := fun z hz e => by have := h2.1 z hz; rw [e, ltc_irr] at this; cases this
    constructor
    · intro hz
      exact (List.mem_cons.mp ((h z).mp (by simp [hz]))).resolve_left (nx z hz)
    · intro hz
      exact (List.mem_cons.mp ((h z).mpr (by simp [hz]))).resolve_left (ny z hz)
theorem IsS.uniq {xs ys s t : List (List Nat)} (h : IsS xs s) (g : IsS ys t) (e : ∀ x, x ∈ xs ↔ x ∈ ys) : s = t :=
  ord_uniq h.ord g.ord fun x => by rw [h.mem, g.mem, e]
theorem ord_nodup {s : List (List Nat)} (h : s.Pairwise (fun a b => ltCps a b = true)) : s.Nodup :=
  h.imp fun {a b} hab e => by rw [e, ltc_irr] at hab; cases hab
theorem rising_ord : ∀ {x : Str} {ys : List Str}, risingS x ys = true → (x :: ys).Nodup → ((x :: ys).map fun z => z.cps.toList).Pairwise (fun a b => ltCps a b = true)
  | x, [], _, _ => by simp
  | x, y :: r, h, hn => by
    simp only [risingS, Bool.and_eq_true, Bool.not_eq_true'] at h
    have ih := rising_ord h.2 (List.nodup_cons.mp hn).2
    have hxy : ltCps x.cps.toList y.cps.toList = true := by
      cases e : ltCps x.cps.toList y.cps.toList
      · have := ltc_total h.1 e
        have e2 : y = x := by
          obtain ⟨a⟩ := x; obtain ⟨b⟩ := y
          have : b = a := by simpa using this
          rw [this]
        exact absurd (by simp [e2]) (List.nodup_cons.mp hn).1
      · rfl
    rw [List.map_cons, List.pairwise_cons]
    refine ⟨fun z hz => ?_, ih⟩
    rw [List.map_cons] at hz ih
    rcases List.mem_cons.mp hz with e | hz
    · rw [e]; exact hxy
    · exact ltc_trans hxy ((List.pairwise_cons.mp ih).1 z hz)
theorem sorted_ord {ys : List Str} (h : sortedS ys = true) (hn : ys.Nodup) : (ys.map fun z => z.cps.toList).Pairwise (fun a b => ltCps a b = true) := by
  cases ys with
  | nil => simp
  | cons x r => exact rising_ord h hn
theorem T_cps' (z : Str) : T z.cps.toList = z := by cases z; rfl
/-- what sorting gives, by rows of signs -/
theorem isS_of {xs : List (List Nat)} {zs ys : List Str} (h : sortedS ys = true) (hn : ys.Nodup) (hm : ∀ k, k ∈ ys ↔ k ∈ zs) (hz : ∀ x, T x ∈ zs ↔ x = [] ∨ x ∈ xs) : IsS xs (ys.map fun z => z.cps.toList) ∧ ys = (ys.map fun z => z.cps.toList).map T := by
  refine ⟨⟨fun x => ?_, sorted_ord h hn⟩, ?_⟩
  · rw [← hz, ← hm, List.mem_map]
    constructor
    · rintro ⟨z, hz, rfl⟩; rw [T_cps']; exact hz
    · intro hx; exact ⟨_, hx, rfl⟩
  · rw [List.map_map]
    have e : ((fun a => T a) ∘ fun z : Str => z.cps.toList) = id := by funext z; exact T_cps' z
    show ys = ys.map ((fun a => T a) ∘ fun z : Str => z.cps.toList)
    rw [e, List.map_id]
/-! ### the longest that holds -/
def lng (L : List (List Nat)) (a : List Nat) : List Nat := L.foldl (fun f x => if x.isPrefixOf a && decide (f.length < x.length) then x else f) []
theorem lng_go (a : List Nat) : ∀ (L : List (List Nat)) (f : List Nat), f <+: a → let r := L.foldl (fun f x => if x.isPrefixOf a && decide (f.length < x.length) then x else f) f; (r = f ∨ r ∈ L) ∧ r <+: a ∧ f.length ≤ r.length ∧ ∀ x ∈ L, x <+: a → x.length ≤ r.length
  | [], f, hf => ⟨.inl rfl, hf, Nat.le_refl _, fun x hx => nomatch hx⟩
  | y :: L, f, hf => by
    simp only [List.foldl_cons]
    split
    · rename_i h
      rw [Bool.and_eq_true, List.isPrefixOf_iff_prefix, decide_eq_true_eq] at h
      obtain ⟨h1, h2, h3, h4⟩ := lng_go a L y h.1
      refine ⟨.inr ?_, h2, by omega, fun x hx hp => ?_⟩
      · rcases h1 with z | z
        · rw [z]; simp
        · exact List.mem_cons_of_mem _ z
      · rcases List.mem_cons.mp hx with z | z
        · rw [z]; exact h3
        · exact h4 x z hp
    · rename_i h
      obtain ⟨h1, h2, h3, h4⟩ := lng_go a L f hf
      refine ⟨?_, h2, h3, fun x hx hp => ?_⟩
      · rcases h1 with z | z
        · exact .inl z
        · exact .inr (List.mem_cons_of_mem _ z)
      · rcases List.mem_cons.mp hx with z | z
        · subst z
          rw [Bool.and_eq_true, List.isPrefixOf_iff_prefix, decide_eq_true_eq] at h
          by_cases hl : f.length < x.length
          · exact absurd ⟨hp, hl⟩ h
          · omega
        · exact h4 x z hp
theorem lng_spec (L : List (List Nat)) (a : List Nat) : (lng L a = [] ∨ lng L a ∈ L) ∧ lng L a <+: a ∧ ∀ x ∈ L, x <+: a → x.length ≤ (lng L a).length := by
  obtain ⟨h1, h2, _, h4⟩ := lng_go a L [] List.nil_prefix
  exact ⟨h1, h2, h4⟩
theorem lng_is {L : List (List Nat)} {a p : List Nat} (h1 : p = [] ∨ p ∈ L) (h2 : p <+: a) (h3 : ∀ x ∈ L, x <+: a → x.length ≤ p.length) : lng L a = p := by
  obtain ⟨g1, g2, g3⟩ := lng_spec L a
  have l1 : (lng L a).length ≤ p.length := by
    rcases g1 with z | z
    · rw [z]; simp
    · exact h3 _ z g2
  have l2 : p.length ≤ (lng L a).length := by
    rcases h1 with z | z
    · rw [z]; simp
    · exact g3 _ z h2
  exact (List.prefix_of_prefix_length_le g2 h2 l1).eq_of_length (by omega)
theorem cell_lng {xs ss : List (List Nat)} {p a : List Nat} (h : IsS xs ss) (hp : p ∈ ss) : cell ss p a = true ↔ lng xs a = p := by
  rw [cell_iff]
  constructor
  · rintro ⟨h1, h2⟩
    refine lng_is ((h.mem p).mp hp) h1 fun x hx hxa => ?_
    by_cases hl : x.length ≤ p.length
    · exact hl
    · refine absurd hxa (h2 x ((h.mem x).mpr (.inr hx)) (List.prefix_of_prefix_length_le h1 hxa (by omega)) fun e => by subst e; omega)
  · intro e
    obtain ⟨g1, g2, g3⟩ := lng_spec xs a
    rw [e] at g2 g3
    refine ⟨g2, fun q hq hpq hne hqa => hne ?_⟩
    have hl : q.length ≤ p.length := by
      rcases (h.mem q).mp hq with z | z
      · rw [z]; simp
      · exact g3 q z hqa
    exact (hpq.eq_of_length_le hl).symm
theorem lng_mem {xs ss : List (List Nat)} (h : IsS xs ss) (a : List Nat) : lng xs a ∈ ss := (h.mem _).mpr (lng_spec xs a).1
/-- a row of cells -/
def rowD (w : Nat) (ss : List (List Nat)) (p : List Nat) : PyData := .tuple [.str (T p), .int ((allW w).countP (cell ss p) : Nat), match (allW w).find? (cell ss p) with | some a => .str (T a) | none => .none]
def rowsD (w : Nat) (ss : List (List Nat)) : List PyData := ss.map (rowD w ss)
theorem Left.first {w : Nat} {L : List (List Nat)} {p : List Nat} {m st : Nat} (hp : Bt p) (hw : p.length ≤ w) (h : Left w L p m st) (hm : 0 < m) : ∃ a, (allW w).find? (cell L p) = some a ∧ num a = st ∧ a.length = w ∧ Bt a := by
  rw [h.cnt, List.countP_pos_iff] at hm
  obtain ⟨a, ha, hc⟩ := hm
  obtain ⟨l1, b1⟩ := allW_mem.mp ha
  have i1 := (pre_iff hp b1 l1 hw).mp (cell_iff.mp hc).1
  have lo1 := h.lo a ha hc
  rcases h.hit with z | ⟨a0, h1, h2, h3⟩
  · omega
  · cases e : (allW w).find? (cell L p) with
    | none => exact absurd h2 (List.find?_eq_none.mp e a0 h1)
    | some a1 =>
      obtain ⟨c1, as, bs, e1, e2⟩ := List.find?_eq_some_iff_append.mp e
      have m1 : a1 ∈ allW w := by rw [e1]; simp
      obtain ⟨l2, b2⟩ := allW_mem.mp m1
      have lo2 := h.lo a1 m1 c1
      refine ⟨a1, rfl, ?_, l2, b2⟩
      have hsort : ((allW w).map num).Pairwise (· < ·) := by rw [allW_num]; exact List.pairwise_lt_range
      rw [e1] at h1 hsort
      rcases List.mem_append.mp h1 with z | z
      · have := e2 a0 z; rw [h2] at this; simp at this
      · rcases List.mem_cons.mp z with z | z
        · rw [← z]; exact h3
        · rw [List.map_append, List.map_cons, List.pairwise_append] at hsort
          have := (List.pairwise_cons.mp hsort.2.1).1 (num a0) (List.mem_map_of_mem z)
          omega
theorem find_none {α : Type} {P : α → Bool} {l : List α} (h : l.countP P = 0) : l.find? P = none := by
  rw [List.find?_eq_none]
  exact fun x hx => by simpa using List.countP_eq_zero.mp h x hx
/-! ### the stack of stretches around -/
structure Stk (L ar : List (List Nat)) : Prop where
  ord : ar.Pairwise (fun a b => a <+: b)
  sub : ∀ q ∈ ar, q ∈ L
/-- all beginnings of s are on the stack -/
structure StkAt (L ar : List (List Nat)) (s : List Nat) : Prop extends Stk L ar where
  all : ∀ q ∈ L, q <+: s → q ∈ ar
theorem StkAt.pop {L ar : List (List Nat)} {s t : List Nat} (h : StkAt L (ar ++ [t]) s) (ht : ¬ t <+: s) : StkAt L ar s where
  ord := (List.pairwise_append.mp h.ord).1
  sub := fun q hq => h.sub q (by simp [hq])
  all := fun q hq hp => by
    rcases List.mem_append.mp (h.all q hq hp) with z | z
    · exact z
    · have : q = t := by simpa using z
      subst this; exact absurd hp ht
theorem StkAt.top {L ar : List (List Nat)} {s t : List Nat} (h : StkAt L (ar ++ [t]) s) : t ∈ L ∧ ∀ q ∈ L, q <+: s → q.length ≤ t.length := by
  refine ⟨h.sub t (by simp), fun q hq hp => ?_⟩
  rcases List.mem_append.mp (h.all q hq hp) with z | z
  · exact ((List.pairwise_append.mp h.ord).2.2 q z t (by simp)).length_le
  · have : q = t := by simpa using z
    subst this; exact Nat.le_refl _
/-- all on the stack are beginnings of s: s goes on top -/
theorem StkAt.push {L ar : List (List Nat)} {s : List Nat} (h : StkAt L ar s) (hs : ∀ q ∈ ar, q <+: s) : Stk (L ++ [s]) (ar ++ [s]) ∧ ∀ q, q ∈ ar ++ [s] ↔ q ∈ L ++ [s] ∧ q <+: s := by
  refine ⟨⟨?_, fun q hq => ?_⟩, fun q => ⟨fun hq => ?_, fun ⟨hq, hp⟩ => ?_⟩⟩
  · rw [List.pairwise_append]
    refine ⟨h.ord, by simp, fun a ha b hb => ?_⟩
    have : b = s := by simpa using hb
    subst this; exact hs a ha
  · rcases List.mem_append.mp hq with z | z
    · exact List.mem_append_left _ (h.sub q z)
    · exact List.mem_append_right _ z
  · rcases List.mem_append.mp hq with z | z
    · exact ⟨List.mem_append_left _ (h.sub q z), hs q z⟩
    · have : q = s := by simpa using z
      subst this; exact ⟨List.mem_append_right _ z, List.prefix_refl _⟩
  · rcases List.mem_append.mp hq with z | z
    · exact List.mem_append_left _ (h.all q z hp)
    · exact List.mem_append_right _ z
/-- the next stretch: its beginnings are those of the last one -/
theorem StkAt.next {L ar : List (List Nat)} {t s : List Nat} (h : Stk (L ++ [t]) ar) (ha : ∀ q, q ∈ ar ↔ q ∈ L ++ [t] ∧ q <+: t) (ho : (L ++ [t] ++ [s]).Pairwise (fun a b => ltCps a b = true)) : StkAt (L ++ [t]) ar s where
  ord := h.ord
  sub := h.sub
  all := fun q hq hp => by
    rw [ha]
    refine ⟨hq, ?_⟩
    have o1 := List.pairwise_append.mp ho
    have hts := o1.2.2 t (by simp) s (by simp)
    refine ltc_conv hp ?_ hts
    rcases List.mem_append.mp hq with z | z
    · have hqt := (List.pairwise_append.mp o1.1).2.2 q z t (by simp)
      cases e : ltCps t q
      · rfl
      · have := ltc_trans hqt e; rw [ltc_irr] at this; cases this
    · have : q = t := by simpa using z
      subst this; exact ltc_irr _
theorem Stk.below {L ar : List (List Nat)} {t : List Nat} (h : Stk L (ar ++ [t])) : ∀ q ∈ ar ++ [t], q <+: t := fun q hq => by
  rcases List.mem_append.mp hq with z | z
  · exact (List.pairwise_append.mp h.ord).2.2 q z t (by simp)
  · have : q = t := by simpa using z
    subst this; exact List.prefix_refl _
/-! ### all addresses are in just one cell -/
theorem sum_ite {α : Type} [DecidableEq α] : ∀ (ss : List α) (x : α), ss.Nodup → x ∈ ss → (ss.map fun p => if x = p then 1 else 0).sum = 1
  | [], _, _, h => nomatch h
  | y :: ss, x, hn, h => by
    rw [List.nodup_cons] at hn
    rw [List.map_cons, List.sum_cons]
    by_cases e : x = y
    · rw [if_pos e]
      have : (ss.map fun p => if x = p then 1 else 0).sum = 0 := by
        have : (ss.map fun p => if x = p then 1 else 0) = ss.map fun _ => 0 := List.map_congr_left fun p hp => if_neg (fun e2 => hn.1 (by rw [← e, e2]; exact hp))
        rw [this]
        clear this hn h
        induction ss with
        | nil => rfl
        | cons _ _ ih => simpa using ih
      omega
    · rw [if_neg e, sum_ite ss x hn.2 ((List.mem_cons.mp h).resolve_left e)]
theorem sum_add {α : Type} (f g : α → Nat) : ∀ ss : List α, (ss.map fun p => f p + g p).sum = (ss.map f).sum + (ss.map g).sum
  | [] => rfl
  | y :: ss => by simp only [List.map_cons, List.sum_cons, sum_add f g ss]; omega
theorem sum_cnt {xs ss : List (List Nat)} (h : IsS xs ss) : ∀ l : List (List Nat), (ss.map fun p => l.countP fun a => decide (lng xs a = p)).sum = l.length
  | [] => by
    simp only [List.countP_nil, List.length_nil]
    clear h
    induction ss with
    | nil => rfl
    | cons _ _ ih => simpa using ih
  | a :: l => by
    have e : (fun p => (a :: l).countP fun a => decide (lng xs a = p)) = fun p => (l.countP fun a => decide (lng xs a = p)) + (if lng xs a = p then 1 else 0) := by
      funext p
      rw [List.countP_cons]
      simp
    rw [e, sum_add, sum_cnt h l, sum_ite ss _ (ord_nodup h.ord) (lng_mem h a), List.length_cons]
theorem cell_cnt {xs ss : List (List Nat)} {p : List Nat} (h : IsS xs ss) (hp : p ∈ ss) (l : List (List Nat)) : l.countP (cell ss p) = l.countP fun a => decide (lng xs a = p) :=
  List.countP_congr fun a _ => by rw [cell_lng h hp, decide_eq_true_eq]
theorem cell_fst {xs ss : List (List Nat)} {p : List Nat} (h : IsS xs ss) (hp : p ∈ ss) (l : List (List Nat)) : l.find? (cell ss p) = l.find? fun a => decide (lng xs a = p) := by
  congr 1
  funext a
  rw [Bool.eq_iff_iff, cell_lng h hp, decide_eq_true_eq]
theorem rows_sum {w : Nat} {xs ss : List (List Nat)} (h : IsS xs ss) : (ss.map fun p => (allW w).countP (cell ss p)).sum = 2 ^ w := by
  rw [← allW_len, ← sum_cnt h]
  congr 1
  exact List.map_congr_left fun p hp => cell_cnt h hp _
end CW

namespace CW
open PySem PySem.Spec PyProof.Rows L2
/-! ## 20a. Loops, as they are used -/
/-- a list or a tuple of these -/
def Sq (K : PySem.W.Frag) (H : Hp) (p : Addr) (xs : List V) : Prop := SqL K H p xs ∨ SqT K H p xs
/-- the thing at p is read as before -/
structure Kp (K : PySem.W.Frag) (p : Addr) (H H' : Hp) : Prop where
  l : ∀ xs, SqL K H p xs → SqL K H' p xs
  t : ∀ xs, SqT K H p xs → SqT K H' p xs
section
variable {K : PySem.W.Frag} {W : WX} {p : Addr} {xs : List V}
theorem Grow.kp {H H' : Hp} (g : Grow H H') : Kp K p H H' := ⟨fun _ h => g.sql h, fun _ h => g.sqt h⟩
theorem Chg.kp {H H' : Hp} {b : Addr} (g : Chg b H H') (n : p ≠ b) : Kp K p H H' := ⟨fun _ h => g.sql n h, fun _ h => g.sqt n h⟩
theorem Kp.refl {H : Hp} : Kp K p H H := ⟨fun _ h => h, fun _ h => h⟩
theorem Kp.sq {H H' : Hp} (k : Kp K p H H') (h : Sq K H p xs) : Sq K H' p xs := h.elim (fun z => .inl (k.l _ z)) (fun z => .inr (k.t _ z))
theorem Grow.sq {H H' : Hp} (a : Grow H H') (h : Sq K H p xs) : Sq K H' p xs := (Grow.kp a).sq h
/-- enumerate over a tuple -/
theorem walk_enumT : Walk (IteT K p) xs.length (fun H => SqT K H p xs) (YPair (fun i => some (.int (i : Nat))) (fun i => xs[i]?)) := by
  refine ⟨fun i _ hi q => ⟨xs, xs[i], q, by simp [hi]⟩, fun _ q => ⟨xs, q, Nat.le_refl _⟩, fun i H v H' _ q y => ?_⟩
  obtain ⟨T, x, h1, h2, h3, h4⟩ := y
  exact ⟨T, .int (i : Nat), x, h1, h2, h3, rfl, h4 xs q⟩
variable {t b' : E} {b r : S} {D : Ends} {σ : L2.St} {H : Hp} {i : Nat}
theorem for_enum (hσ : σ[i]? = some (some (.ref p))) (hs : Sq K H p xs) (Pv : Nat → L2.St → Hp → Prop) (h0 : Pv 0 σ H) (hk : ∀ k σ2 H2, k ≤ xs.length → Pv k σ2 H2 → Kp K p H H2)
    (step : ∀ k x σ2 H2 T, xs[k]? = some x → Pv k σ2 H2 → H2 T = none → wG K W t (.ref T) σ2 (upd H2 T (.tup [.int (k : Nat), x])) fun σ3 H3 => wS K W b { D with nx := Pv (k + 1), ct := Pv (k + 1), bk := wS K W r D } σ3 H3)
    (done : ∀ σ2 H2, Pv xs.length σ2 H2 → wS K W r D σ2 H2) : wS K W (.cons (.for_ t (.enum (.v i)) b) r) D σ H := by
  show (match σ[i]? with | some (some x) => iEnumV K x H _ | _ => False)
  rw [hσ]
  rcases hs with h | h
  · refine Or.inl ⟨⟨xs, h⟩, ?_⟩
    refine for_it walk_enum Pv h0 (fun k σ2 H2 hk2 z => (hk k σ2 H2 hk2 z).l _ h) (fun k x σ2 H2 H3 hi z y => ?_) done
    obtain ⟨T, x1, y1, rfl, ht, rfl, e1, e2⟩ := y
    obtain rfl := Option.some.inj e1
    exact step k y1 σ2 H2 T e2 z ht
  · refine Or.inr ⟨⟨xs, h⟩, ?_⟩
    refine for_it walk_enumT Pv h0 (fun k σ2 H2 hk2 z => (hk k σ2 H2 hk2 z).t _ h) (fun k x σ2 H2 H3 hi z y => ?_) done
    obtain ⟨T, x1, y1, rfl, ht, rfl, e1, e2⟩ := y
    obtain rfl := Option.some.inj e1
    exact step k y1 σ2 H2 T e2 z ht
/-- what is walked is the value v -/
theorem it_sq {g : TG} {tb : TS} {D : Ends} (hs : Sq K H p xs) (Pv : Nat → L2.St → Hp → Prop) (h0 : Pv 0 σ H) (hk : ∀ k σ2 H2, k ≤ xs.length → Pv k σ2 H2 → Kp K p H H2)
    (step : ∀ k x σ2 H2, xs[k]? = some x → Pv k σ2 H2 → g x σ2 H2 fun σ3 H3 => tb { D with nx := Pv (k + 1), ct := Pv (k + 1), bk := D.nx } σ3 H3)
    (done : ∀ σ2 H2, Pv xs.length σ2 H2 → D.nx σ2 H2) : iVal K (.ref p) H fun J H1 => ∃ Wn : Nat → Nat → L2.St → Hp → Prop, (∃ m, Wn 0 m σ H1) ∧ ∀ i m σ H, Wn i m σ H →
      (J.stop i H ∧ D.nx σ H) ∨ (J.go i H ∧ ∃ N : L2.St → Hp → Prop, (∀ σ' H', N σ' H' → ∃ m', m' < m ∧ Wn (i + 1) m' σ' H') ∧ ∀ x H', J.yld i H x H' → g x σ H' fun σ2 H2 => tb { D with nx := N, ct := N, bk := D.nx } σ2 H2) := by
  rcases hs with h | h
  · refine Or.inl ⟨⟨xs, h⟩, ?_⟩
    refine for_it walk_list Pv h0 (fun k σ2 H2 hk2 z => (hk k σ2 H2 hk2 z).l _ h) (fun k x σ2 H2 H3 hi z y => ?_) done
    obtain ⟨rfl, e⟩ := y
    exact step k x σ2 _ e z
  · refine Or.inr ⟨⟨xs, h⟩, ?_⟩
    refine for_it walk_tup Pv h0 (fun k σ2 H2 hk2 z => (hk k σ2 H2 hk2 z).t _ h) (fun k x σ2 H2 H3 hi z y => ?_) done
    obtain ⟨rfl, e⟩ := y
    exact step k x σ2 _ e z
theorem for_sq (hσ : σ[i]? = some (some (.ref p))) (hs : Sq K H p xs) (Pv : Nat → L2.St → Hp → Prop) (h0 : Pv 0 σ H) (hk : ∀ k σ2 H2, k ≤ xs.length → Pv k σ2 H2 → Kp K p H H2)
    (step : ∀ k x σ2 H2, xs[k]? = some x → Pv k σ2 H2 → wG K W t x σ2 H2 fun σ3 H3 => wS K W b { D with nx := Pv (k + 1), ct := Pv (k + 1), bk := wS K W r D } σ3 H3)
    (done : ∀ σ2 H2, Pv xs.length σ2 H2 → wS K W r D σ2 H2) : wS K W (.cons (.for_ t (.v i) b) r) D σ H := by
  show (match σ[i]? with | some (some x) => iVal K x H _ | _ => False)
  rw [hσ]
  exact it_sq hs Pv h0 hk step done
theorem for_str {z : Str} (hσ : σ[i]? = some (some (.str z))) (Pv : Nat → L2.St → Hp → Prop) (h0 : Pv 0 σ H)
    (step : ∀ k c σ2 H2, z.cps.toList[k]? = some c → Pv k σ2 H2 → wG K W t (.str ⟨#[c]⟩) σ2 H2 fun σ3 H3 => wS K W b { D with nx := Pv (k + 1), ct := Pv (k + 1), bk := wS K W r D } σ3 H3)
    (done : ∀ σ2 H2, Pv z.cps.toList.length σ2 H2 → wS K W r D σ2 H2) : wS K W (.cons (.for_ t (.v i) b) r) D σ H := by
  show (match σ[i]? with | some (some x) => iVal K x H _ | _ => False)
  rw [hσ]
  refine for_it walk_str Pv h0 (fun _ _ _ _ _ => trivial) (fun k x σ2 H2 H3 hi z y => ?_) (fun σ2 H2 h => done σ2 H2 (by simpa using h))
  obtain ⟨rfl, c, hc, rfl⟩ := y
  exact step k c σ2 _ (by simpa using hc) z
/-- for x in range(e): what e is, is told by the reading -/
theorem for_rng1 {e : E} {n : Nat} (he : ∀ Q : VK, Q (.int (n : Nat)) H → wE K W e σ H Q) (hn : n < 1000000) (Pv : Nat → L2.St → Hp → Prop) (h0 : Pv 0 σ H)
    (step : ∀ k σ2 H2, k < n → Pv k σ2 H2 → wG K W t (.int (k : Nat)) σ2 H2 fun σ3 H3 => wS K W b { D with nx := Pv (k + 1), ct := Pv (k + 1), bk := wS K W r D } σ3 H3)
    (done : ∀ σ2 H2, Pv n σ2 H2 → wS K W r D σ2 H2) : wS K W (.cons (.for_ t (.rng1 (.cons e .nil)) b) r) D σ H := by
  show wE K W e σ H _
  refine he _ ⟨_, rfl, by omega, by omega, ?_⟩
  refine for_it walk_range Pv h0 (fun _ _ _ _ _ => trivial) (fun k x σ2 H2 H3 hi z y => ?_) (fun σ2 H2 h => done σ2 H2 (by simpa using h))
  obtain ⟨rfl, rfl⟩ := y
  have e0 : (0 : Int) + (k : Int) = k := by omega
  show wG K W t (.int ((0 : Int) + (k : Int))) _ _ _
  rw [e0]
  exact step k σ2 _ (by simpa using hi) z
/-- a comprehension over a list or tuple that is read all the time -/
theorem lc_sq {g : TG} {tt : TT} {te : TE} {vs : List Nat} {D : Addr} {Qd : Hp → Prop} (hs : Sq K H p xs) (hD : H D = none) (Pv : Nat → Hp → Prop) (h0 : Pv 0 (upd H D (.lst []))) (hk : ∀ k H2, k ≤ xs.length → Pv k H2 → Kp K p H H2)
    (step : ∀ k x H2, xs[k]? = some x → Pv k H2 → g x (wipe σ vs) H2 fun σ2 H3 => wipe σ2 vs = wipe σ vs ∧ tt σ2 H3 fun b H4 =>
      if b = true then te σ2 H4 fun y H5 => ∃ acc, H5 D = some (.lst acc) ∧ acc.length < sizeLine ∧ Pv (k + 1) (upd H5 D (.lst (acc ++ [y]))) else Pv (k + 1) H4) (done : ∀ H2, Pv xs.length H2 → Qd H2) :
    ∀ J, ((J = Itl K p ∧ SqL K H p xs) ∨ (J = Itt K p ∧ SqT K H p xs)) → ∃ Wn : Nat → Nat → Hp → Prop, (∃ m, Wn 0 m (upd H D (.lst []))) ∧ ∀ i m H, Wn i m H →
      (J.stop i H ∧ Qd H) ∨ (J.go i H ∧ ∃ Nx : Hp → Prop, (∀ H', Nx H' → ∃ m', m' < m ∧ Wn (i + 1) m' H') ∧ ∀ x H', J.yld i H x H' → g x (wipe σ vs) H' fun σ2 H2 => wipe σ2 vs = wipe σ vs ∧ tt σ2 H2 fun b H3 =>
        if b = true then te σ2 H3 fun y H4 => ∃ acc, H4 D = some (.lst acc) ∧ acc.length < sizeLine ∧ Nx (upd H4 D (.lst (acc ++ [y]))) else Nx H3) := by
  rintro J (⟨rfl, h⟩ | ⟨rfl, h⟩)
  · refine lc_it walk_list Pv h0 (fun k H2 hk2 z => (hk k H2 hk2 z).l _ h) (fun k x H2 H3 hi z y => ?_) done
    obtain ⟨rfl, e⟩ := y
    exact step k x _ e z
  · refine lc_it walk_tup Pv h0 (fun k H2 hk2 z => (hk k H2 hk2 z).t _ h) (fun k x H2 H3 hi z y => ?_) done
    obtain ⟨rfl, e⟩ := y
    exact step k x _ e z
end
end CW

namespace CW
open PySem PySem.Spec PyProof.Rows L2
/-! ## 20. Stretches: shared readings -/
section
variable {K : PySem.W.Frag} {W : WX} {H : Hp} {p : Addr} {xs : List V}
theorem ty_sql (h : SqL K H p xs) : TyR K H p .list := by
  rcases h with (h | ⟨o, h⟩) | ⟨o, its, n, h, c, _⟩
  · exact .base (.lst h)
  · exact .base (.frz h)
  · exact .kList h c
theorem ty_sqt (h : SqT K H p xs) : TyR K H p .tuple := by
  rcases h with (h | ⟨o, h⟩) | ⟨o, its, n, h, c, _⟩
  · exact .base (.tup h)
  · exact .fTuple h
  · exact .kTuple h c
theorem isA_sq {ts : List Ty} {Q : VK} (h : Sq K H p xs) (h1 : Ty.list ∈ ts) (h2 : Ty.tuple ∈ ts) (q : Q (.bl true) H) : rIsA K ts (.ref p) H Q := by
  have e : ∀ t ∈ ts, inTyR t ts = true := by
    have go : ∀ (t : Ty) (l : List Ty), t ∈ l → inTyR t l = true := by
      intro t l
      induction l with
      | nil => intro z; cases z
      | cons u r ih =>
        intro z
        unfold inTyR
        rcases List.mem_cons.mp z with e | z
        · rw [e]; simp
        · rw [ih z]; simp
    exact fun t ht => go t ts ht
  rcases h with h | h
  · exact ⟨.list, .inl rfl, ty_sql h, by rw [e _ h1]; exact q⟩
  · exact ⟨.tuple, .inr (.inl rfl), ty_sqt h, by rw [e _ h2]; exact q⟩
def spIsList (K : PySem.W.Frag) : Sp := fun vs H Q _ => ∃ x, vs = [x] ∧ rIsA K [.list, .tuple] x H Q
def isListB : S := .cons (.ret (.isA (.v 0) [.list, .tuple])) (.nil)
theorem rd_isList (vs : List V) (H : Hp) (Q : VK) (R : XK) (h : spIsList K vs H Q R) : vs.length = 1 ∧ wS K W isListB (Dn Q) (start ["a"] vs) H := by
  obtain ⟨x, rfl, q⟩ := h
  exact ⟨rfl, q⟩
/-- a row of bits as a value -/
abbrev tx (l : List Nat) : V := .str (T l)
def StOk (w : Nat) (xs : List (List Nat)) : Prop := ∀ x ∈ xs, Bt x ∧ x.length ≤ w
def spWantStretches (K : PySem.W.Frag) : Sp := fun vs H Q _ => ∃ (w : Nat) (p : Addr) (xs : List (List Nat)), vs = [.int w, .ref p] ∧ 1 ≤ w ∧ w ≤ 100 ∧ Sq K H p (xs.map tx) ∧ StOk w xs ∧ ∀ H', Grow H H' → Q .non H'
def wantStretchesB (s1 s2 : Sp) : S := .cons (.ite (.not (.call s1 (.cons (.v 1) (.nil)) (.nil) [.p 0])) (.cons (.bad) (.nil)) (.nil)) (.cons (.for_ (.tup (.cons (.v 2) (.cons (.v 3) (.nil)))) (.enum (.v 1)) (.cons (.ite (.not (.call s2 (.cons (.v 0) (.cons (.v 3) (.nil))) (.nil) [.p 0, .p 1])) (.cons (.bad) (.nil)) (.nil)) (.nil))) (.nil))
theorem rd_wantStretches (vs : List V) (H : Hp) (Q : VK) (R : XK) (h : spWantStretches K vs H Q R) : vs.length = 2 ∧ wS K W (wantStretchesB (spIsList K) (spIsStretch K)) (Dn Q) (start ["a", "b", "c", "d"] vs) H := by
  obtain ⟨w, p, xs, rfl, w1, w2, hs, ok, q⟩ := h
  refine ⟨rfl, _, rfl, isA_sq hs (by simp) (by simp) ?_⟩
  show wS K W (.cons (.for_ _ (.enum (.v 1)) _) .nil) _ [some (.int w), some (.ref p), none, none] H
  refine for_enum (i := 1) rfl hs (fun i σ H2 => Grow H H2 ∧ ∃ x y, σ = [some (.int w), some (.ref p), x, y]) ⟨.refl, _, _, rfl⟩ (fun i σ H2 _ h => h.1.kp) (fun i x σ H2 t e2 h ht => ?_) (fun σ H2 h => q H2 h.1)
  obtain ⟨g, x0, y0, rfl⟩ := h
  rw [List.getElem?_map] at e2
  obtain ⟨z, hz, rfl⟩ : ∃ z, xs[i]? = some z ∧ tx z = x := by
    cases hz : xs[i]? with
    | none => rw [hz] at e2; cases e2
    | some z => rw [hz] at e2; exact ⟨z, rfl, Option.some.inj e2⟩
  have hm := ok z (List.mem_of_getElem? hz)
  refine ⟨t, _, rfl, .inl (.inl upd_same), rfl, _, _, rfl, _, _, rfl, rfl, ?_⟩
  refine ⟨w, _, rfl, by omega, by omega, (by show (T z).length ≤ 1000; rw [T_len]; omega), ?_⟩
  show if (!isStretch w (.str (T z))) = true then _ else _
  rw [isStretch_T hm.1 (by omega)]
  exact ⟨g.new ht, _, _, rfl⟩
def spSizeOf : Sp := fun vs H Q _ => ∃ (w : Nat) (l : List Nat), vs = [.int w, tx l] ∧ w ≤ 100 ∧ l.length ≤ w ∧ Q (.int (szW w l : Nat)) H
def sizeOfB : S := .cons (.ret (.bin .LShift (.c (.int 1)) (.bin .Sub (.v 0) (.bi .len (.cons (.v 1) (.nil)))))) (.nil)
theorem rd_sizeOf (vs : List V) (H : Hp) (Q : VK) (R : XK) (h : spSizeOf vs H Q R) : vs.length = 2 ∧ wS K W sizeOfB (Dn Q) (start ["a", "b"] vs) H := by
  obtain ⟨w, l, rfl, w2, hl, q⟩ := h
  have hz : (sizeLine : Nat) = 16777216 := sizeLine_eq
  refine ⟨rfl, by rw [T_len]; omega, ?_, ?_⟩
  · exact ⟨by rw [T_len]; omega, by rw [T_len]; omega⟩
  · have e : (1 : Int) * 2 ^ ((w : Int) - ((T l).length : Int)).toNat = ((szW w l : Nat) : Int) := by
      unfold szW
      rw [T_len, show ((w : Int) - (l.length : Int)).toNat = w - l.length by omega, Int.one_mul]
      simp
    show Q (.int (1 * 2 ^ ((w : Int) - ((T l).length : Int)).toNat)) H
    rw [e]; exact q
theorem one_eq (c : Nat) : decide (V.str ⟨#[c]⟩ = V.str "1") = decide (c = 49) := by
  rw [Bool.eq_iff_iff, decide_eq_true_eq, decide_eq_true_eq]
  constructor
  · intro e
    have e2 : (⟨#[c]⟩ : Str) = "1" := by injection e
    have := congrArg (fun z : Str => z.cps.toList) e2
    simpa using (List.cons.inj this).1
  · intro e; rw [e]; rfl
def spBeginOf : Sp := fun vs H Q _ => ∃ (w : Nat) (l : List Nat), vs = [.int w, tx l] ∧ w ≤ 100 ∧ l.length ≤ w ∧ Q (.int (bgW w l : Nat)) H
def beginOfB (s1 : Sp) : S := .cons (.set (.v 2) (.c (.int 0))) (.cons (.for_ (.v 3) (.v 1) (.cons (.set (.v 2) (.bin .Add (.bin .Mult (.c (.int 2)) (.v 2)) (.bi .int (.cons (.cmp .Eq (.v 3) (.c (.str "1"))) (.nil))))) (.nil))) (.cons (.ret (.bin .Mult (.v 2) (.call s1 (.cons (.v 0) (.cons (.v 1) (.nil))) (.nil) [.p 0, .p 1]))) (.nil)))
theorem rd_beginOf (vs : List V) (H : Hp) (Q : VK) (R : XK) (h : spBeginOf vs H Q R) : vs.length = 2 ∧ wS K W (beginOfB spSizeOf) (Dn Q) (start ["a", "b", "c", "d"] vs) H := by
  obtain ⟨w, l, rfl, w2, hl, q⟩ := h
  refine ⟨rfl, ?_⟩
  show wS K W (.cons (.for_ (.v 3) (.v 1) _) _) _ [some (.int w), some (tx l), some (.int 0), none] H
  refine for_str (i := 1) rfl (fun i σ H2 => H2 = H ∧ ∃ y, σ = [some (.int w), some (tx l), some (.int (num (l.take i) : Nat)), y]) ⟨rfl, _, rfl⟩ (fun i c σ H2 hc h => ?_) (fun σ H2 h => ?_)
  · obtain ⟨rfl, y0, rfl⟩ := h
    have hc' : l[i]? = some c := hc
    refine ⟨.inl ⟨by decide, by decide⟩, rfl, rfl, some (.str ⟨#[c]⟩), ?_⟩
    have et : l.take (i + 1) = l.take i ++ [c] := by rw [List.take_succ, hc']; rfl
    show [some (.int w), some (tx l), some (.int (2 * (num (l.take i) : Nat) + (if decide (V.str ⟨#[c]⟩ = V.str "1") = true then 1 else 0))), some (.str ⟨#[c]⟩)] = _
    rw [et, num_snoc, one_eq]
    have : (2 * ((num (l.take i) : Nat) : Int) + (if decide (c = 49) = true then 1 else 0)) = ((2 * num (l.take i) + (if c = 49 then 1 else 0) : Nat) : Int) := by
      by_cases e : c = 49 <;> simp [e]
    rw [this]
  · obtain ⟨rfl, y, rfl⟩ := h
    have el : l.take (T l).cps.toList.length = l := List.take_length
    rw [el]
    refine ⟨w, l, rfl, w2, hl, ?_, ?_⟩
    · have b1 := num_lt l
      by_cases h50 : l.length ≤ 50
      · left
        have : 2 ^ l.length ≤ 2 ^ 50 := Nat.pow_le_pow_right (by decide) h50
        omega
      · right
        have : szW w l ≤ 2 ^ 50 := Nat.pow_le_pow_right (by decide) (by omega)
        omega
    · show Q (.int ((num l : Nat) * (szW w l : Nat))) H2
      have e : ((num l : Nat) : Int) * ((szW w l : Nat) : Int) = ((bgW w l : Nat) : Int) := by
        unfold bgW szW; simp
      rw [e]; exact q
theorem toString_bit (b : Nat) (h : b < 2) : ((toString ((b : Nat) : Int) : String) : Str) = T [48 + b] := by
  have : b = 0 ∨ b = 1 := by omega
  rcases this with rfl | rfl <;> decide +kernel
theorem T_app (a b : List Nat) : T a ++ T b = T (a ++ b) := by
  show (⟨a.toArray ++ b.toArray⟩ : Str) = _
  simp
def spAddressOf : Sp := fun vs H Q _ => ∃ a : List Nat, vs = [.int (a.length : Nat), .int (num a : Nat)] ∧ Bt a ∧ a.length ≤ 100 ∧ ∀ H', Grow H H' → Q (tx a) H'
def addressOfB : S := .cons (.par [2, 3] (.cons (.c (.str "")) (.cons (.v 1) (.nil)))) (.cons (.for_ (.v 4) (.rng1 (.cons (.v 0) (.nil))) (.cons (.set (.tup (.cons (.v 3) (.cons (.v 5) (.nil)))) (.bi .divmod (.cons (.v 3) (.cons (.c (.int 2)) (.nil))))) (.cons (.set (.v 2) (.bin .Add (.bi .str (.cons (.v 5) (.nil))) (.v 2))) (.nil)))) (.cons (.ret (.v 2)) (.nil)))
theorem rd_addressOf (vs : List V) (H : Hp) (Q : VK) (R : XK) (h : spAddressOf vs H Q R) : vs.length = 2 ∧ wS K W addressOfB (Dn Q) (start ["a", "b", "c", "d", "e", "f"] vs) H := by
  obtain ⟨a, rfl, ha, hl, q⟩ := h
  have hz : (sizeLine : Nat) = 16777216 := sizeLine_eq
  refine ⟨rfl, _, _, rfl, ?_⟩
  show wS K W (.cons (.for_ (.v 4) (.rng1 (.cons (.v 0) .nil)) _) _) _ [some (.int (a.length : Nat)), some (.int (num a : Nat)), some (.str ""), some (.int (num a : Nat)), none, none] H
  refine for_rng1 (n := a.length) (fun Q q => q) (by omega) (fun i σ H2 => Grow H H2 ∧ ∃ y z, σ = [some (.int (a.length : Nat)), some (.int (num a : Nat)), some (tx (a.drop (a.length - i))), some (.int (num (a.take (a.length - i)) : Nat)), y, z]) ⟨.refl, none, none, ?_⟩ (fun i σ H2 hi h => ?_) (fun σ H2 h => ?_)
  · simp; rfl
  · obtain ⟨g, y0, z0, rfl⟩ := h
    refine ⟨⟨by decide, by decide⟩, fun r hr => ?_⟩
    refine ⟨r, _, rfl, .inl (.inl upd_same), rfl, _, _, rfl, _, _, rfl, rfl, ?_⟩
    have hk : a.length - i = (a.length - (i + 1)) + 1 := by omega
    have hlt : a.length - (i + 1) < a.length := by omega
    obtain ⟨c, hc⟩ : ∃ c, a[a.length - (i + 1)]? = some c := ⟨_, List.getElem?_eq_getElem hlt⟩
    have bc := ha c (List.mem_of_getElem? hc)
    have et : a.take (a.length - i) = a.take (a.length - (i + 1)) ++ [c] := by rw [hk, List.take_succ, hc]; rfl
    have ed : a.drop (a.length - (i + 1)) = c :: a.drop (a.length - i) := by
      rw [hk]
      have := List.drop_eq_getElem_cons hlt
      rw [this]
      congr 1
      exact Option.some.inj ((List.getElem?_eq_getElem hlt).symm.trans hc)
    simp only [isBit, Bool.or_eq_true, decide_eq_true_eq] at bc
    have en : num (a.take (a.length - i)) = 2 * num (a.take (a.length - (i + 1))) + (c - 48) := by
      rw [et, num_snoc]
      rcases bc with rfl | rfl <;> simp
    have e1 : ((num (a.take (a.length - i)) : Nat) : Int) / 2 = (num (a.take (a.length - (i + 1))) : Nat) := by rw [en]; omega
    have e2 : ((num (a.take (a.length - i)) : Nat) : Int) % 2 = ((c - 48 : Nat) : Int) := by rw [en]; omega
    rw [e1, e2]
    refine ⟨?_, ?_, ?_⟩
    · have : (((c - 48 : Nat) : Int)).natAbs = c - 48 := by omega
      rw [this]
      have : c - 48 < 2 := by omega
      rcases (show c - 48 = 0 ∨ c - 48 = 1 by omega) with z | z <;> rw [z] <;> decide
    · rw [toString_bit _ (by omega), T_len, T_len, List.length_drop]; simp; omega
    · refine ⟨g.new hr, some (.int (i : Nat)), some (.int ((c - 48 : Nat) : Int)), ?_⟩
      rw [toString_bit _ (by omega), T_app, ed]
      have : 48 + (c - 48) = c := by omega
      rw [this]
      rfl
  · obtain ⟨g, y0, z0, rfl⟩ := h
    have e : a.drop (a.length - a.length) = a := by simp
    rw [e]
    exact q H2 g
end
end CW

namespace CW
open PySem PySem.Spec PyProof.Rows L2
section
variable {K : PySem.W.Frag} {W : WX} {H : Hp} {p q : Addr}
theorem inV_tx (s : List Nat) (xs : List (List Nat)) : inV (tx s) (xs.map tx) = decide (s ∈ xs) := by
  unfold inV
  rw [Bool.eq_iff_iff, List.any_eq_true, decide_eq_true_eq]
  constructor
  · rintro ⟨y, hy, e⟩
    obtain ⟨x, hx, rfl⟩ := List.mem_map.mp hy
    have e2 : (T x == T s) = true := e
    rw [beq_iff_eq] at e2
    rw [← T_inj e2]; exact hx
  · intro h
    refine ⟨tx s, List.mem_map_of_mem h, ?_⟩
    show (T s == T s) = true
    simp
theorem flat_tx (xs : List (List Nat)) : (xs.map tx).all flatV = true := by
  rw [List.all_eq_true]
  intro y hy
  obtain ⟨x, _, rfl⟩ := List.mem_map.mp hy
  rfl
theorem dp_txs {xs : List (List Nat)} : DpAll K H (xs.map tx) (xs.map fun x => .str (T x)) := by
  induction xs with
  | nil => exact .nil
  | cons x r ih => exact .cons (.str _) ih
theorem fit_txs {xs : List (List Nat)} {n : Nat} (h : ∀ x ∈ xs, (∀ c ∈ x, c < 128) ∧ x.length ≤ n) : FitA ((n + 1) * xs.length) 0 (xs.map fun x => .str (T x)) := by
  have := FitA.all (ds := xs.map fun x => PyData.str (T x)) (w := n) (k := 0) (fun d hd => by
    obtain ⟨x, hx, rfl⟩ := List.mem_map.mp hd
    exact Fit.str (h x hx).2 (h x hx).1)
  rwa [List.length_map] at this
/-- != [] of a list of texts -/
theorem ne_nil {xs : List (List Nat)} {Q : VK} (h : SqL K H p (xs.map tx)) (hq : SqL K H q []) (ok : ∀ x ∈ xs, (∀ c ∈ x, c < 128)) (k : Q (.bl (!xs.isEmpty)) H) : rNeD K (.ref p) (.ref q) H Q := by
  refine ⟨.list (xs.map fun x => .str (T x)), .list [], .lst h dp_txs, .lst hq .nil, ?_, rfl, ?_⟩
  · refine Fit.shaped (w := _) (k := 1) (Fit.list (FitA.all (w := (xs.map (·.length)).sum) (k := 0) fun d hd => ?_)) (by decide)
    obtain ⟨x, hx, rfl⟩ := List.mem_map.mp hd
    refine Fit.str ?_ (ok x hx)
    show x.length ≤ _
    clear h ok k hd
    induction xs with
    | nil => cases hx
    | cons y r ih =>
      rw [List.map_cons, List.sum_cons]
      rcases List.mem_cons.mp hx with e | e
      · rw [e]; omega
      · have := ih e; omega
  · cases xs <;> exact k
theorem ne_nilC {xs : List (List Nat)} {Q : VK} (h : SqL K H p (xs.map tx)) (hq : SqL K H q []) (ok : ∀ x ∈ xs, (∀ c ∈ x, c < 128)) (k : Q (.bl (!xs.isEmpty)) H) : rCmp K .NotEq (.ref p) (.ref q) H Q := ne_nil h hq ok k
theorem eq_nil {xs : List (List Nat)} {Q : VK} (h : SqL K H p (xs.map tx)) (hq : SqL K H q []) (ok : ∀ x ∈ xs, (∀ c ∈ x, c < 128)) (k : Q (.bl xs.isEmpty) H) : rEqD K (.ref p) (.ref q) H Q := by
  obtain ⟨d, e, h1, h2, h3, h4, h5⟩ := ne_nil (Q := fun v H' => v = .bl (!xs.isEmpty)) h hq ok rfl
  refine ⟨d, e, h1, h2, h3, h4, ?_⟩
  have : PyData.eqv d e = xs.isEmpty := by
    have h5 : V.bl (!PyData.eqv d e) = .bl (!xs.isEmpty) := h5
    injection h5 with h6
    revert h6
    cases PyData.eqv d e <;> cases xs.isEmpty <;> simp
  rw [this]; exact k
theorem eq_nilC {xs : List (List Nat)} {Q : VK} (h : SqL K H p (xs.map tx)) (hq : SqL K H q []) (ok : ∀ x ∈ xs, (∀ c ∈ x, c < 128)) (k : Q (.bl xs.isEmpty) H) : rCmp K .Eq (.ref p) (.ref q) H Q := eq_nil h hq ok k
theorem last_tx {xs : List (List Nat)} {s : List Nat} : atI ((xs ++ [s]).map tx) (-1) = some (tx s) := by
  unfold atI ixN
  have e : (-((((xs ++ [s]).map tx).length : Nat) : Int) ≤ -1) := by simp; omega
  rw [if_neg (by decide), if_pos e]
  have e2 : ((-1 : Int) + (((xs ++ [s]).map tx).length : Nat)).toNat = xs.length := by simp; omega
  rw [e2]
  show ((xs ++ [s]).map tx)[xs.length]? = _
  simp
theorem startswith_tx (s t : List Nat) : Txt.startswith (T s) (T t) = t.isPrefixOf s := by
  unfold Txt.startswith
  rw [PySem.StrLaws.subAt_eq]
  show (decide (0 + t.length ≤ s.length) && ((s.drop 0).take t.length == t)) = _
  rw [Bool.eq_iff_iff, Bool.and_eq_true, decide_eq_true_eq, beq_iff_eq, List.isPrefixOf_iff_prefix, List.drop_zero, List.prefix_iff_eq_take]
  constructor
  · exact fun h => h.2.symm
  · intro h
    refine ⟨?_, h.symm⟩
    have := congrArg List.length h
    rw [List.length_take] at this
    omega
/-! ### longest_holding, cell_of -/
def spHold (K : PySem.W.Frag) : Sp := fun vs H Q _ => ∃ (p : Addr) (xs : List (List Nat)) (a : List Nat), vs = [.ref p, tx a] ∧ Sq K H p (xs.map tx) ∧ a.length ≤ 1000 ∧
  (∀ s ∈ xs, s <+: a → (∀ x ∈ xs, x <+: a → x.length ≤ s.length) → Q (tx s) H) ∧ ((∀ x ∈ xs, ¬ x <+: a) → Q .non H)
def holdB : S := .cons (.for_ (.v 2) (.rng3 (.cons (.bi .len (.cons (.v 1) (.nil))) (.cons (.un .USub (.c (.int 1))) (.cons (.un .USub (.c (.int 1))) (.nil))))) (.cons (.ite (.cmp .In (.slc (.v 1) (.nil) (.cons (.v 2) .nil)) (.v 0)) (.cons (.ret (.slc (.v 1) (.nil) (.cons (.v 2) .nil))) (.nil)) (.nil)) (.nil))) (.cons (.ret (.c .non)) (.nil))
theorem rd_hold (vs : List V) (H : Hp) (Q : VK) (R : XK) (h : spHold K vs H Q R) : vs.length = 2 ∧ wS K W holdB (Dn Q) (start ["a", "b", "c"] vs) H := by
  obtain ⟨p, xs, a, rfl, hs, hl, q1, q2⟩ := h
  have hz : (sizeLine : Nat) = 16777216 := sizeLine_eq
  refine ⟨rfl, by rw [T_len]; omega, _, _, _, _, rfl, RgC.neg (by rw [T_len]; omega) (by rw [T_len]; omega) (by decide) (by decide), ?_⟩
  have en : (((T a).length : Int) - (-1)).toNat = a.length + 1 := by rw [T_len]; omega
  rw [en]
  refine for_it walk_rangeC (fun i σ H2 => H2 = H ∧ (∃ y, σ = [some (.ref p), some (tx a), y]) ∧ ∀ x ∈ xs, x <+: a → x.length + i ≤ a.length) ⟨rfl, ⟨none, rfl⟩, fun x _ hx => hx.length_le⟩ (fun _ _ _ _ _ => trivial) (fun i x σ H2 H3 hi h y => ?_) (fun σ H2 h => ?_)
  · obtain ⟨rfl, ⟨y0, rfl⟩, hx⟩ := h
    obtain ⟨rfl, rfl⟩ := y
    have ei : ((T a).length : Int) + (i : Nat) * (-1) = ((a.length - i : Nat) : Int) := by rw [T_len]; omega
    show wS K W _ _ [some (.ref p), some (tx a), some (.int (((T a).length : Int) + (i : Nat) * (-1)))] H3
    rw [ei]
    refine ⟨by rw [T_len]; omega, .inl ?_⟩
    rw [cut_to]
    refine ⟨p, _, rfl, hs, rfl, flat_tx xs, ?_⟩
    show if (inV (tx (a.take (a.length - i))) (xs.map tx)) = true then _ else _
    rw [inV_tx]
    split
    · rename_i hm
      rw [decide_eq_true_eq] at hm
      refine ⟨by rw [T_len]; omega, ?_⟩
      rw [cut_to]
      refine q1 _ hm (List.take_prefix _ _) fun x hx' hxa => ?_
      have := hx x hx' hxa
      rw [List.length_take]; omega
    · rename_i hm
      rw [decide_eq_true_eq] at hm
      refine ⟨rfl, ⟨_, rfl⟩, fun x hx' hxa => ?_⟩
      have h1 := hx x hx' hxa
      by_cases e : x.length + i = a.length
      · exact absurd (by rw [show a.length - i = x.length by omega, ← List.prefix_iff_eq_take.mp hxa]; exact hx') hm
      · omega
  · obtain ⟨rfl, ⟨y0, rfl⟩, hx⟩ := h
    exact q2 fun x hx' hxa => by have := hx x hx' hxa; omega
def spCellOf (K : PySem.W.Frag) : Sp := fun vs H Q _ => ∃ (w : Nat) (p : Addr) (xs : List (List Nat)) (a : List Nat), vs = [.int w, .ref p, tx a] ∧ 1 ≤ w ∧ w ≤ 100 ∧ Sq K H p (xs.map tx) ∧ StOk w xs ∧ Bt a ∧ a.length = w ∧ ∀ H', Grow H H' → Q (tx (lng xs a)) H'
def cellOfB (s1 s2 s3 s4 : Sp) : S := .cons (.ex (.call s1 (.cons (.v 0) (.nil)) (.nil) [.p 0])) (.cons (.ex (.call s2 (.cons (.v 0) (.cons (.v 1) (.nil))) (.nil) [.p 0, .p 1])) (.cons (.ex (.call s3 (.cons (.v 0) (.cons (.v 2) (.nil))) (.nil) [.p 0, .p 1])) (.cons (.set (.v 3) (.call s4 (.cons (.v 1) (.cons (.v 2) (.nil))) (.nil) [.p 0, .p 1])) (.cons (.ret (.ite (.cmp .Is (.v 3) (.c .non)) (.c (.str "")) (.v 3))) (.nil)))))
theorem rd_cellOf (vs : List V) (H : Hp) (Q : VK) (R : XK) (h : spCellOf K vs H Q R) : vs.length = 3 ∧ wS K W (cellOfB spWantWidth (spWantStretches K) spWantAddress (spHold K)) (Dn Q) (start ["a", "b", "c", "d"] vs) H := by
  obtain ⟨w, p, xs, a, rfl, w1, w2, hs, ok, ha, hl, q⟩ := h
  refine ⟨rfl, w, rfl, by omega, by omega, w, p, xs, rfl, w1, w2, hs, ok, fun H1 g => ?_⟩
  refine ⟨w, a, rfl, by omega, by omega, ha, by omega, p, xs, a, rfl, g.sq hs, by omega, fun s hs' hp hm => ?_, fun hn => ?_⟩
  · have := q H1 g
    rw [lng_is (.inr hs') hp hm] at this
    exact this
  · have := q H1 g
    rw [lng_is (.inl rfl) List.nil_prefix (fun x hx hxa => absurd hxa (hn x hx))] at this
    exact this
end
end CW

namespace CW
open PySem PySem.Spec PyProof.Rows L2
/-! ## 21. cell_rows -/
theorem New.back {K : PySem.W.Frag} {H H1 H' : Hp} {l : Addr} {ds : List PyData} (g : Grow H H1) (n : New K H1 l H' ds) : New K H l H' ds := by
  refine ⟨?_, n.here, g.trans n.grow⟩
  cases e : H l with
  | none => rfl
  | some o => have := g l o e; rw [n.fresh] at this; cases this
section
variable {K : PySem.W.Frag} {H H' : Hp}
mutual
theorem dp_kp (a : ∀ p, Kp K p H H') : ∀ (d : PyData) (v : V), Dp K H v d → Dp K H' v d
  | .none, _, h => by cases h; exact .non
  | .bool b, _, h => by cases h; exact .bl b
  | .int i, _, h => by cases h; exact .int i
  | .str x, _, h => by cases h; exact .str x
  | .list ds, _, h => by
    cases h with
    | lst hs ha => exact .lst ((a _).l _ hs) (dpAll_kp a ds _ ha)
  | .tuple ds, _, h => by
    cases h with
    | tup hs ha => exact .tup ((a _).t _ hs) (dpAll_kp a ds _ ha)
  | .dict _, _, h => by cases h
theorem dpAll_kp (a : ∀ p, Kp K p H H') : ∀ (ds : List PyData) (vs : List V), DpAll K H vs ds → DpAll K H' vs ds
  | [], _, h => by cases h; exact .nil
  | d :: ds, _, h => by
    cases h with
    | cons h1 h2 => exact .cons (dp_kp a d _ h1) (dpAll_kp a ds _ h2)
end
/-- what is at D is no list and no tuple -/
theorem kp_dict {D : Addr} {u : HO} (h : (∃ kvs, H D = some (.dK kvs)) ∨ ∃ o kvs, H D = some (.frz o (.dK kvs))) (p : Addr) : Kp K p H (upd H D u) := by
  have no : ∀ xs, ¬ Rd H D (.lst xs) ∧ ¬ Rd H D (.tup xs) := fun xs => by
    refine ⟨?_, ?_⟩ <;> rintro (e | ⟨o, e⟩) <;> rcases h with ⟨kvs, z⟩ | ⟨o', kvs, z⟩ <;> rw [z] at e <;> cases e
  refine ⟨fun xs z => ?_, fun xs z => ?_⟩
  · rcases z with z | z
    · refine .inl ?_
      have hne : p ≠ D := fun e => (no xs).1 (e ▸ z)
      rcases z with z | ⟨o, z⟩
      · exact .inl (by rw [upd_ne hne]; exact z)
      · exact .inr ⟨o, by rw [upd_ne hne]; exact z⟩
    · exact .inr z
  · rcases z with z | z
    · refine .inl ?_
      have hne : p ≠ D := fun e => (no xs).2 (e ▸ z)
      rcases z with z | ⟨o, z⟩
      · exact .inl (by rw [upd_ne hne]; exact z)
      · exact .inr ⟨o, by rw [upd_ne hne]; exact z⟩
    · exact .inr z
theorem Grow.fresh {H0 : Hp} {x : Addr} {o : HO} (g : Grow H0 H) (h : H0 x = none) : Grow H0 (upd H x o) := fun b u e => by
  rw [upd_ne (ne_of_none e h)]; exact g b u e
end
/-- a dict comprehension over a list, whatever happens beside -/
theorem dc_it {J : It} {n : Nat} {G : Hp → Prop} {Y : Nat → Hp → V → Hp → Prop} (w : Walk J n G Y) {g : TG} {tt : TT} {tk tv : TE} {vs : List Nat} {σ : L2.St} {H1 : Hp} {D : Addr} {Qd : Hp → Prop} (Pv : Nat → Hp → Prop) (h0 : Pv 0 (upd H1 D (.dK []))) (hG : ∀ i H, i ≤ n → Pv i H → G H)
    (hs : ∀ i x H H', i < n → Pv i H → Y i H x H' → g x (wipe σ vs) H' fun σ2 H2 => wipe σ2 vs = wipe σ vs ∧ tt σ2 H2 fun b H3 =>
      if b = true then tk σ2 H3 fun y H4 => tv σ2 H4 fun z H5 => ∃ kvs k, y = kV k ∧ H5 D = some (.dK kvs) ∧ kvs.length < sizeLine ∧ Pv (i + 1) (upd H5 D (.dK (putK kvs k z))) else Pv (i + 1) H3) (hd : ∀ H, Pv n H → Qd H) :
    ∃ W : Nat → Nat → Hp → Prop, (∃ m, W 0 m (upd H1 D (.dK []))) ∧ ∀ i m H, W i m H →
      (J.stop i H ∧ Qd H) ∨ (J.go i H ∧ ∃ Nx : Hp → Prop, (∀ H', Nx H' → ∃ m', m' < m ∧ W (i + 1) m' H') ∧ ∀ x H', J.yld i H x H' → g x (wipe σ vs) H' fun σ2 H2 => wipe σ2 vs = wipe σ vs ∧ tt σ2 H2 fun b H3 =>
        if b = true then tk σ2 H3 fun y H4 => tv σ2 H4 fun z H5 => ∃ kvs k, y = kV k ∧ H5 D = some (.dK kvs) ∧ kvs.length < sizeLine ∧ Nx (upd H5 D (.dK (putK kvs k z))) else Nx H3) := by
  refine ⟨fun i m H => m = n - i ∧ i ≤ n ∧ Pv i H, ⟨n, by simp, Nat.zero_le _, h0⟩, ?_⟩
  rintro i m H ⟨rfl, hi, p⟩
  have q := hG i H hi p
  by_cases hlt : i < n
  · exact .inr ⟨w.goes i H hlt q, Pv (i + 1), fun H' p' => ⟨n - (i + 1), by omega, rfl, hlt, p'⟩, fun x H' y => hs i x H H' hlt p (w.yields i H x H' hlt q y)⟩
  · have e : i = n := by omega
    subst e
    exact .inl ⟨w.stops H q, hd H p⟩
/-! ### a dict from texts to pairs of numbers -/
abbrev ky (s : List Nat) : Key := .inr (T s)
theorem ky_inj {a b : List Nat} (h : ky a = ky b) : a = b := T_inj (by injection h)
abbrev pr (x : Nat × Nat) : HO := .tup [.int (x.1 : Nat), .int (x.2 : Nat)]
def setF (f : List Nat → Nat × Nat) (s : List Nat) (x : Nat × Nat) (q : List Nat) : Nat × Nat := if q = s then x else f q
theorem setF_same {f : List Nat → Nat × Nat} {s : List Nat} {x : Nat × Nat} : setF f s x s = x := if_pos rfl
theorem setF_ne {f : List Nat → Nat × Nat} {s q : List Nat} {x : Nat × Nat} (h : q ≠ s) : setF f s x q = f q := if_neg h
def LD (H : Hp) (D : Addr) (ss : List (List Nat)) (f : List Nat → Nat × Nat) : Prop :=
  ∃ kvs, H D = some (.dK kvs) ∧ kvs.map (·.1) = ss.map ky ∧ ∀ s ∈ ss, ∃ a, valV kvs (ky s) = some (.ref a) ∧ H a = some (pr (f s))
theorem LD.congr {H H' : Hp} {D : Addr} {ss : List (List Nat)} {f : List Nat → Nat × Nat} (h : LD H D ss f) (hd : ∀ kvs, H D = some (.dK kvs) → H' D = some (.dK kvs)) (ht : ∀ a x, H a = some (pr x) → H' a = some (pr x)) : LD H' D ss f := by
  obtain ⟨kvs, h1, h2, h3⟩ := h
  refine ⟨kvs, hd _ h1, h2, fun s hs => ?_⟩
  obtain ⟨a, e1, e2⟩ := h3 s hs
  exact ⟨a, e1, ht _ _ e2⟩
theorem LD.grow {H H' : Hp} {D : Addr} {ss : List (List Nat)} {f : List Nat → Nat × Nat} (h : LD H D ss f) (g : Grow H H') : LD H' D ss f := h.congr (fun _ e => g _ _ e) (fun _ _ e => g _ _ e)
theorem LD.lst {H : Hp} {D B : Addr} {xs ys : List V} {ss : List (List Nat)} {f : List Nat → Nat × Nat} (h : LD H D ss f) (hB : H B = some (.lst xs)) : LD (upd H B (.lst ys)) D ss f :=
  h.congr (fun kvs e => by rw [upd_ne (fun z => by rw [z, hB] at e; cases e)]; exact e) (fun a x e => by rw [upd_ne (fun z => by rw [z, hB] at e; cases e)]; exact e)
theorem putK_keys {kvs : List (Key × V)} {k : Key} {v : V} (h : k ∈ kvs.map (·.1)) : (putK kvs k v).map (·.1) = kvs.map (·.1) := by
  unfold putK
  have : (kvs.any fun kv => decide (kv.1 = k)) = true := by
    rw [List.any_eq_true]
    obtain ⟨kv, h1, h2⟩ := List.mem_map.mp h
    exact ⟨kv, h1, by simpa using h2⟩
  rw [if_pos this, List.map_map]
  refine List.map_congr_left fun kv _ => ?_
  show (if kv.1 = k then (kv.1, v) else kv).1 = kv.1
  split <;> rfl
theorem LD.put {H : Hp} {D a : Addr} {ss : List (List Nat)} {f : List Nat → Nat × Nat} {s : List Nat} {x : Nat × Nat} (h : LD H D ss f) (hs : s ∈ ss) (ha : H a = some (pr x)) :
    ∃ kvs, H D = some (.dK kvs) ∧ kvs.length = ss.length ∧ LD (upd H D (.dK (putK kvs (ky s) (.ref a)))) D ss (setF f s x) := by
  obtain ⟨kvs, h1, h2, h3⟩ := h
  have hl : kvs.length = ss.length := by have := congrArg List.length h2; simpa using this
  refine ⟨kvs, h1, hl, _, upd_same, ?_, fun q hq => ?_⟩
  · rw [putK_keys (by rw [h2]; exact List.mem_map_of_mem hs), h2]
  · have ne : ∀ b y, H b = some (pr y) → b ≠ D := fun b y e z => by rw [z, h1] at e; cases e
    by_cases e : q = s
    · subst e
      refine ⟨a, by rw [valV_put, if_pos rfl], ?_⟩
      rw [upd_ne (ne a x ha), setF_same]; exact ha
    · obtain ⟨b, e1, e2⟩ := h3 q hq
      refine ⟨b, ?_, ?_⟩
      · rw [valV_put, if_neg (fun z => e (ky_inj z))]; exact e1
      · rw [upd_ne (ne b _ e2), setF_ne e]; exact e2
theorem LD.get {H : Hp} {D : Addr} {ss : List (List Nat)} {f : List Nat → Nat × Nat} {s : List Nat} (h : LD H D ss f) (hs : s ∈ ss) : ∃ a, DGet H D (tx s) (some (.ref a)) ∧ H a = some (pr (f s)) := by
  obtain ⟨kvs, h1, h2, h3⟩ := h
  obtain ⟨a, e1, e2⟩ := h3 s hs
  refine ⟨a, ?_, e2⟩
  have := DGet.k (k := ky s) h1
  rw [e1] at this
  exact this
end CW

namespace CW
open PySem PySem.Spec PyProof.Rows L2
/-- how far the cells are told -/
structure CM (w : Nat) (ss : List (List Nat)) (k : Nat) (ar : List (List Nat)) (f : List Nat → Nat × Nat) : Prop where
  done : ∀ s ∈ ss.take k, Left w (ss.take k) s (f s).1 (f s).2
  rest : ∀ s ∈ ss, s ∉ ss.take k → f s = (szW w s, bgW w s)
  stk : Stk (ss.take k) ar
  top : ∀ L t, ss.take k = L ++ [t] → ∀ q, q ∈ ar ↔ q ∈ L ++ [t] ∧ q <+: t
  len : ar.length ≤ k
theorem take_snoc {α : Type} {l : List α} {k : Nat} {x : α} (h : l[k]? = some x) : l.take (k + 1) = l.take k ++ [x] := by rw [List.take_succ, h]; rfl
section
variable {w k : Nat} {ss ar : List (List Nat)} {f : List Nat → Nat × Nat} {s : List Nat}
theorem CM.start : CM w ss 0 [] (fun s => (szW w s, bgW w s)) :=
  ⟨fun s hs => by simp at hs, fun _ _ _ => rfl, ⟨List.Pairwise.nil, fun q hq => nomatch hq⟩, fun L t e => by simp at e, Nat.le_refl _⟩
theorem CM.at (c : CM w ss k ar f) (ho : ss.Pairwise (fun a b => ltCps a b = true)) (hk : ss[k]? = some s) : StkAt (ss.take k) ar s := by
  by_cases h0 : k = 0
  · subst h0
    exact { c.stk with all := fun q hq => by simp at hq }
  · obtain ⟨t, ht⟩ : ∃ t, ss[k - 1]? = some t := by
      have : k < ss.length := (List.getElem?_eq_some_iff.mp hk).1
      exact ⟨_, List.getElem?_eq_getElem (by omega)⟩
    have e : ss.take k = ss.take (k - 1) ++ [t] := by
      have := take_snoc ht
      rwa [show k - 1 + 1 = k by omega] at this
    rw [e]
    refine StkAt.next (by rw [← e]; exact c.stk) (c.top _ _ e) ?_
    rw [← e, ← take_snoc hk]
    exact ho.sublist (List.take_sublist _ _)
theorem lts_of (ho : ss.Pairwise (fun a b => ltCps a b = true)) (hk : ss[k]? = some s) : ∀ q ∈ ss.take k, ltCps q s = true := fun q hq => by
  have h : (ss.take (k + 1)).Pairwise (fun a b => ltCps a b = true) := ho.sublist (List.take_sublist _ _)
  rw [take_snoc hk] at h
  exact (List.pairwise_append.mp h).2.2 q hq s (by simp)
theorem notin_of (ho : ss.Pairwise (fun a b => ltCps a b = true)) (hk : ss[k]? = some s) : s ∉ ss.take k := fun h => by
  have := lts_of ho hk s h
  rw [ltc_irr] at this; cases this
/-- nothing is around: the first one -/
theorem CM.first (c : CM w ss k ar f) (ok : StOk w ss) (ho : ss.Pairwise (fun a b => ltCps a b = true)) (hn : ss.head? = some []) (hk : ss[k]? = some s) (h : StkAt (ss.take k) [] s) : CM w ss (k + 1) ([] ++ [s]) f := by
  have hs := ok s (List.mem_of_getElem? hk)
  have e0 : k = 0 := by
    by_cases h0 : k = 0
    · exact h0
    · have : ([] : List Nat) ∈ ss.take k := by
        cases ss with
        | nil => simp at hn
        | cons x r =>
          have : x = [] := by simpa using hn
          subst this
          cases k with
          | zero => exact absurd rfl h0
          | succ k => simp
      have := h.all [] this List.nil_prefix
      simp at this
  subst e0
  obtain ⟨p1, p2⟩ := h.push (fun q hq => nomatch hq)
  rw [← take_snoc hk] at p1 p2
  refine ⟨fun q hq => ?_, fun q hq hn => c.rest q hq (by simp), p1, fun L t e q => ?_, by simp⟩
  · rw [take_snoc hk] at hq ⊢
    have eq : q = s := by simpa using hq
    subst eq
    rw [c.rest q (List.mem_of_getElem? hk) (by simp)]
    exact Left.init hs.1 hs.2 (fun _ z => by simp at z)
  · rw [take_snoc hk] at e p2
    have := List.append_inj' e rfl
    have et : s = t := by simpa using this.2
    rw [← et, ← this.1]
    exact p2 q
/-- one more below t -/
theorem CM.next {t : List Nat} (c : CM w ss k ar f) (ok : StOk w ss) (ho : ss.Pairwise (fun a b => ltCps a b = true)) (hk : ss[k]? = some s) {ar' : List (List Nat)} (h : StkAt (ss.take k) (ar' ++ [t]) s) (ht : t <+: s) (hl : (ar' ++ [t]).length ≤ k) :
    t ∈ ss ∧ szW w s ≤ (f t).1 ∧ CM w ss (k + 1) (ar' ++ [t] ++ [s]) (setF f t ((f t).1 - szW w s, if (f t).2 = bgW w s then bgW w s + szW w s else (f t).2)) := by
  have hs := ok s (List.mem_of_getElem? hk)
  obtain ⟨tm, top⟩ := h.top
  have hts : t ∈ ss := List.mem_of_mem_take tm
  have lts := lts_of ho hk
  have nin := notin_of ho hk
  obtain ⟨z1, z2⟩ := Left.step (fun q hq => ok q (List.mem_of_mem_take hq)) hs.1 hs.2 lts tm ht top (c.done t tm)
  have nts : s ≠ t := fun e => nin (e ▸ tm)
  obtain ⟨p1, p2⟩ := h.push (fun q hq => (Stk.below h.toStk q hq).trans ht)
  rw [← take_snoc hk] at p1 p2
  refine ⟨hts, z1, fun q hq => ?_, fun q hq hn => ?_, p1, fun L u e q => ?_, by rw [List.length_append]; simp at hl ⊢; omega⟩
  · rw [take_snoc hk] at hq ⊢
    rcases List.mem_append.mp hq with z | z
    · by_cases e : q = t
      · subst e; rw [setF_same]; exact z2
      · rw [setF_ne e]
        exact Left.other e tm ht (top q z) (c.done q z)
    · have eq : q = s := by simpa using z
      subst eq
      rw [setF_ne nts, c.rest q (List.mem_of_getElem? hk) nin]
      exact Left.init hs.1 hs.2 lts
  · rw [take_snoc hk] at hn
    have hq2 : q ∉ ss.take k := fun z => hn (List.mem_append_left _ z)
    rw [setF_ne (show q ≠ t from fun e => hq2 (e ▸ tm))]
    exact c.rest q hq hq2
  · rw [take_snoc hk] at e p2
    have := List.append_inj' e rfl
    have et : s = u := by simpa using this.2
    rw [← et, ← this.1]
    exact p2 q
end
end CW

namespace CW
open PySem PySem.Spec PyProof.Rows L2
def spCellRows (K : PySem.W.Frag) : Sp := fun vs H Q _ => ∃ (w : Nat) (p : Addr) (xs : List (List Nat)), vs = [.int w, .ref p] ∧ 1 ≤ w ∧ w ≤ 100 ∧ xs.length ≤ 1000 ∧ Sq K H p (xs.map tx) ∧ StOk w xs ∧ ∀ ss l H', IsS xs ss → New K H l H' (rowsD w ss) → Q (.ref l) H'
/-- the texts of the body's parts -/
abbrev whileB : S := .while_ (.and (.cmp .NotEq (.v 4) (.lst (.nil))) (.not (.mt .startswith (.v 5) (.cons (.sub (.v 4) (.un .USub (.c (.int 1)))) (.nil))))) (.cons (.ex (.mt .pop (.v 4) .nil)) (.nil))
abbrev moveB (s1 s2 : Sp) : S := .ite (.cmp .NotEq (.v 4) (.lst (.nil))) (.cons (.par [6, 7] (.cons (.call s1 (.cons (.v 0) (.cons (.v 5) (.nil))) (.nil) [.p 0, .p 1]) (.cons (.call s2 (.cons (.v 0) (.cons (.v 5) (.nil))) (.nil) [.p 0, .p 1]) (.nil)))) (.cons (.set (.tup (.cons (.v 8) (.cons (.v 9) (.nil)))) (.sub (.v 3) (.sub (.v 4) (.un .USub (.c (.int 1)))))) (.cons (.set (.sub (.v 3) (.sub (.v 4) (.un .USub (.c (.int 1))))) (.tup (.cons (.bin .Sub (.v 8) (.v 6)) (.cons (.ite (.cmp .Eq (.v 9) (.v 7)) (.bin .Add (.v 7) (.v 6)) (.v 9)) (.nil))))) (.nil)))) (.nil)
abbrev pushB : S := .ex (.mt .append (.v 4) (.cons (.v 5) (.nil)))
abbrev tellB (s3 : Sp) : S := .ret (.lkE (.lc (.tup (.cons (.v 10) (.cons (.v 8) (.cons (.ite (.cmp .Gt (.v 8) (.c (.int 0))) (.call s3 (.cons (.v 0) (.cons (.v 9) (.nil))) (.nil) [.p 0, .p 1]) (.c .non)) (.nil))))) (.tup (.cons (.v 10) (.cons (.tup (.cons (.v 8) (.cons (.v 9) (.nil)))) (.nil)))) (.items (.v 3)) (.nil) [10, 8, 9]))
def cellRowsB (s1 s2 s3 : Sp) : S := .cons (.set (.v 2) (.sortset (.bin .Add (.bi .list (.cons (.v 1) (.nil))) (.lst (.cons (.c (.str "")) (.nil)))))) (.cons (.set (.v 3) (.dc (.v 5) (.tup (.cons (.call s1 (.cons (.v 0) (.cons (.v 5) (.nil))) (.nil) [.p 0, .p 1]) (.cons (.call s2 (.cons (.v 0) (.cons (.v 5) (.nil))) (.nil) [.p 0, .p 1]) (.nil)))) (.v 5) (.v 2) (.nil) [5])) (.cons (.set (.v 4) (.lst (.nil))) (.cons (.for_ (.v 5) (.v 2) (.cons whileB (.cons (moveB s1 s2) (.cons pushB (.nil))))) (.cons (tellB s3) (.nil)))))
section
variable {K : PySem.W.Frag} {W : WX} {Dd B : Addr} {ss : List (List Nat)} {w : Nat}
theorem ok_ascii (ok : StOk w ss) {L : List (List Nat)} (h : ∀ q ∈ L, q ∈ ss) : ∀ x ∈ L, ∀ c ∈ x, c < 128 := fun x hx => (ok x (h x hx)).1.ascii
/-- what is told -/
theorem rd_tell {Q : VK} {H : Hp} {f : List Nat → Nat × Nat} {a1 a2 a4 a5 a6 a7 a8 a9 a10 : Option V} (ok : StOk w ss) (hw : w ≤ 100) (hs : ss.length ≤ 1001) (hn : ss.Nodup) (h : LD H Dd ss f) (hf : ∀ s ∈ ss, Left w ss s (f s).1 (f s).2)
    (q : ∀ l H', New K H l H' (rowsD w ss) → Q (.ref l) H') : wS K W (.cons (tellB spAddressOf) .nil) (Dn Q) [some (.int w), a1, a2, some (.ref Dd), a4, a5, a6, a7, a8, a9, a10] H := by
  obtain ⟨kvs, h1, h2, h3⟩ := id h
  refine ⟨Dd, _, h1, trivial, fun od => ?_⟩
  refine ⟨Dd, od, kvs, rfl, upd_same, fun D hD => ?_⟩
  have hl : kvs.length = ss.length := by have := congrArg List.length h2; simpa using this
  have hz : (sizeLine : Nat) = 16777216 := sizeLine_eq
  have nD : D ≠ Dd := fun e => by rw [e, upd_same] at hD; cases hD
  have at_k : ∀ (i : Nat) (k : Key) (v : V), kvs[i]? = some (k, v) → ∃ (s : List Nat) (a : Addr), ss[i]? = some s ∧ k = ky s ∧ v = .ref a ∧ s ∈ ss ∧ H a = some (pr (f s)) := by
    intro i k v e
    have e1 : (kvs.map (·.1))[i]? = some k := by rw [List.getElem?_map, e]; rfl
    rw [h2, List.getElem?_map] at e1
    cases es : ss[i]? with
    | none => rw [es] at e1; cases e1
    | some s =>
      rw [es] at e1
      obtain rfl : ky s = k := Option.some.inj e1
      obtain ⟨a, e2, e3⟩ := h3 s (List.mem_of_getElem? es)
      have nd : (kvs.map (·.1)).Nodup := by
        rw [h2]
        exact List.Pairwise.map ky (fun a b hne e => hne (ky_inj e)) hn
      have := val_nodup nd (ky s, v) (List.mem_of_getElem? e)
      rw [e2] at this
      exact ⟨s, a, rfl, rfl, (Option.some.inj this).symm, List.mem_of_getElem? es, e3⟩
  refine lc_grow (K := K) walk_items (fun i => (ss.take i).map (rowD w ss)) hD (fun H2 g => g _ _ upd_same) rfl (fun i hi => by rw [List.length_map, List.length_take]; omega) (fun i x H2 H2' acc P hi g ha y put skip => ?_) (fun H' n => ?_)
  · obtain ⟨t, x1, y1, rfl, ht, rfl, e1, e2⟩ := y
    obtain ⟨⟨k, v⟩, ek⟩ : ∃ kv, kvs[i]? = some kv := ⟨_, List.getElem?_eq_getElem hi⟩
    simp only [ek] at e1 e2
    obtain rfl : kV k = x1 := Option.some.inj e1
    obtain rfl : v = y1 := Option.some.inj e2
    obtain ⟨s, a, es, rfl, rfl, hm, hp⟩ := at_k i k v ek
    have ha2 : H2 a = some (pr (f s)) := g a _ (by rw [upd_ne (fun z => by rw [z, h1] at hp; cases hp)]; exact hp)
    have hpa : upd H2 t (.tup [kV (ky s), .ref a]) a = some (pr (f s)) := keepA ha2 ht
    have hsd := ok s hm
    have et : (ss.take (i + 1)).map (rowD w ss) = (ss.take i).map (rowD w ss) ++ [rowD w ss s] := by rw [take_snoc es, List.map_append]; rfl
    refine ⟨t, _, rfl, .inl (.inl upd_same), rfl, _, _, rfl, _, _, rfl, ⟨a, _, rfl, .inl (.inl hpa), rfl, _, _, rfl, _, _, rfl, rfl, rfl, ?_⟩⟩
    refine ⟨rfl, ?_⟩
    show if (decide ((0 : Int) < ((f s).1 : Nat))) = true then _ else _
    have fin : ∀ (u : V) (d : PyData) (H5 : Hp), Grow (upd H2 t (.tup [kV (ky s), .ref a])) H5 → (∀ Hx, Dp K Hx u d) → rowD w ss s = .tuple [.str (T s), .int ((f s).1 : Nat), d] →
        ([tx s, V.int ((f s).1 : Nat), u] : List V).length ≤ sizeLine ∧ ∀ r, H5 r = none → ∃ acc, upd H5 r (.tup [tx s, .int ((f s).1 : Nat), u]) D = some (.lst acc) ∧ acc.length < sizeLine ∧ P (upd (upd H5 r (.tup [tx s, .int ((f s).1 : Nat), u])) D (.lst (acc ++ [.ref r]))) := by
      intro u d H5 g5 du er
      refine ⟨by show 3 ≤ sizeLine; decide, fun r hr => ?_⟩
      have hd5 : H5 D = some (.lst acc) := g5 _ _ (keepA ha ht)
      have nr : r ≠ D := fun e => by rw [e, hd5] at hr; cases hr
      refine put (.ref r) _ (rowD w ss s) (keepA hd5 hr) (fun b o e => ?_) et ?_
      · by_cases hb : b = D
        · rw [hb, dropA_self] at e; cases e
        · rw [dropA_ne hb] at e ⊢
          exact keepA (g5 _ _ (keepA e ht)) hr
      · rw [er]
        exact .tup (.inl (.inl (by rw [dropA_ne nr]; exact upd_same))) (.cons (.str _) (.cons (.int _) (.cons (du _) .nil)))
    have lf := hf s hm
    split
    · rename_i hpos
      rw [decide_eq_true_eq] at hpos
      obtain ⟨b, f1, f2, f3, f4⟩ := lf.first hsd.1 hsd.2 (by omega)
      refine ⟨b, ?_, f4, by omega, fun H5 g5 => ?_⟩
      · show [V.int w, V.int ((f s).2 : Nat)] = _
        rw [f2, f3]
      · refine fin _ (.str (T b)) H5 g5 (fun _ => .str _) ?_
        unfold rowD
        rw [f1, ← lf.cnt]
    · rename_i hpos
      rw [decide_eq_true_eq] at hpos
      refine fin .non .none _ .refl (fun _ => .non) ?_
      unfold rowD
      rw [find_none (by rw [← lf.cnt]; omega), ← lf.cnt]
  · have hd' : H' Dd = some (.frz od (.dK kvs)) := n.grows _ _ upd_same
    refine ⟨hd', q D _ ⟨?_, ?_, ?_⟩⟩
    · rw [upd_ne nD] at hD; exact hD
    · obtain ⟨vs, v1, v2⟩ := n.here
      refine ⟨vs, by rw [upd_ne nD]; exact v1, ?_⟩
      have e : dropA (upd H' Dd (.dK kvs)) D = upd (dropA H' D) Dd (.dK kvs) := by
        funext b
        by_cases hb : b = D
        · rw [hb, dropA_self, upd_ne nD, dropA_self]
        · rw [dropA_ne hb]
          by_cases hb2 : b = Dd
          · rw [hb2, upd_same, upd_same]
          · rw [upd_ne hb2, upd_ne hb2, dropA_ne hb]
      rw [e]
      have e2 : (ss.take kvs.length).map (rowD w ss) = rowsD w ss := by rw [hl, List.take_length]; rfl
      rw [← e2]
      exact dpAll_kp (kp_dict (.inr ⟨od, kvs, by rw [dropA_ne nD.symm]; exact hd'⟩)) _ _ v2
    · intro b o e
      by_cases hb : b = Dd
      · rw [hb, dropA_ne nD.symm, upd_same]; rw [hb, h1] at e; exact e
      · have hbD : b ≠ D := fun z => by rw [z] at e; rw [upd_ne nD] at hD; rw [hD] at e; cases e
        rw [dropA_ne hbD, upd_ne hb]
        have := n.grow b o (by rw [upd_ne hb]; exact e)
        rwa [dropA_ne hbD] at this
/-- the whole from the sorted stretches on -/
theorem rd_rows2 {Q : VK} {H : Hp} {o : Addr} {p : V} (ho : H o = some (.lst (ss.map tx))) (ok : StOk w ss) (hw : w ≤ 100) (hs : ss.length ≤ 1001) (ord : ss.Pairwise (fun a b => ltCps a b = true)) (hn : ss.head? = some [])
    (q : ∀ l H', New K H l H' (rowsD w ss) → Q (.ref l) H') : wS K W (.cons (.set (.v 3) (.dc (.v 5) (.tup (.cons (.call spSizeOf (.cons (.v 0) (.cons (.v 5) (.nil))) (.nil) [.p 0, .p 1]) (.cons (.call spBeginOf (.cons (.v 0) (.cons (.v 5) (.nil))) (.nil) [.p 0, .p 1]) (.nil)))) (.v 5) (.v 2) (.nil) [5])) (.cons (.set (.v 4) (.lst (.nil))) (.cons (.for_ (.v 5) (.v 2) (.cons whileB (.cons (moveB spSizeOf spBeginOf) (.cons pushB (.nil))))) (.cons (tellB spAddressOf) (.nil))))) (Dn Q)
      [some (.int w), some p, some (.ref o), none, none, none, none, none, none, none, none] H := by
  have hz : (sizeLine : Nat) = 16777216 := sizeLine_eq
  have nd := ord_nodup ord
  refine Or.inl ⟨⟨_, SqL.of ho⟩, fun D hD => ?_⟩
  refine dc_it (walk_list (xs := ss.map tx)) (fun i H2 => Grow H (dropA H2 D) ∧ ∃ kvs, H2 D = some (.dK kvs) ∧ kvs.map (·.1) = (ss.take i).map ky ∧ ∀ s ∈ ss.take i, ∃ a, valV kvs (ky s) = some (.ref a) ∧ H2 a = some (pr (szW w s, bgW w s)))
    ⟨by rw [drop_upd hD]; exact .refl, [], upd_same, rfl, fun s hs => by simp at hs⟩ (fun i H2 _ h => (h.1.trans Grow.drop).sql (SqL.of ho)) (fun i x H2 H2' hi h y => ?_) (fun H2 h => ?_)
  · obtain ⟨g, kvs, k1, k2, k3⟩ := h
    obtain ⟨rfl, ex⟩ := y
    rw [List.getElem?_map] at ex
    obtain ⟨s, es, rfl⟩ : ∃ s, ss[i]? = some s ∧ tx s = x := by
      cases es : ss[i]? with
      | none => rw [es] at ex; cases ex
      | some s => rw [es] at ex; exact ⟨s, rfl, Option.some.inj ex⟩
    have hsd := ok s (List.mem_of_getElem? es)
    have hl : kvs.length = i := by
      have := congrArg List.length k2
      rw [List.length_map, List.length_map, List.length_take] at this
      have := (List.getElem?_eq_some_iff.mp es).1
      omega
    have hi2 : i < ss.length := (List.getElem?_eq_some_iff.mp es).1
    refine ⟨rfl, ⟨w, s, rfl, hw, hsd.2, w, s, rfl, hw, hsd.2, by show 2 ≤ sizeLine; decide, fun r hr => ?_⟩⟩
    have nr : r ≠ D := fun e => by rw [e, k1] at hr; cases hr
    have hn2 : valV kvs (ky s) = none := by
      cases e : valV kvs (ky s) with
      | none => rfl
      | some v =>
        have := valV_in e
        rw [k2] at this
        obtain ⟨u, h1, h2⟩ := List.mem_map.mp this
        exact absurd (ky_inj h2 ▸ h1) (notin_of ord es)
    refine ⟨kvs, ky s, rfl, keepA k1 hr, by omega, ?_, _, upd_same, ?_, fun u hu => ?_⟩
    · rw [drop_updD]
      intro b u e
      have e2 := g b u e
      by_cases hb : b = D
      · rw [hb, dropA_self] at e2; cases e2
      · rw [dropA_ne hb] at e2 ⊢; exact keepA e2 hr
    · rw [putK_new _ hn2, List.map_append, k2, take_snoc es, List.map_append]; rfl
    · rw [take_snoc es] at hu
      rcases List.mem_append.mp hu with z | z
      · obtain ⟨a, a1, a2⟩ := k3 u z
        have na : a ≠ D := fun e => by rw [e, k1] at a2; cases a2
        refine ⟨a, ?_, by rw [upd_ne na]; exact keepA a2 hr⟩
        rw [valV_put, if_neg (show ky u ≠ ky s from fun e => notin_of ord es (ky_inj e ▸ z))]; exact a1
      · have eu : u = s := by simpa using z
        subst eu
        exact ⟨r, by rw [valV_put, if_pos rfl], by rw [upd_ne nr]; exact upd_same⟩
  · obtain ⟨g, kvs, k1, k2, k3⟩ := h
    have et : ss.take (ss.map tx).length = ss := by rw [List.length_map, List.take_length]
    rw [et] at k2 k3
    have ld : LD H2 D ss (fun s => (szW w s, bgW w s)) := ⟨kvs, k1, k2, k3⟩
    have g2 : Grow H H2 := g.trans Grow.drop
    refine ⟨Nat.zero_le _, fun B hB => ?_⟩
    have hB0 : H B = none := by
      cases e : H B with
      | none => rfl
      | some u => rw [g2 B u e] at hB; cases hB
    show wS K W (.cons (.for_ (.v 5) (.v 2) _) _) _ [some (.int w), some p, some (.ref o), some (.ref D), some (.ref B), none, none, none, none, none, none] _
    refine for_sq (i := 2) rfl (.inl (SqL.of (keepA (g2 _ _ ho) hB))) (fun k σ H3 => Grow H H3 ∧ ∃ ar f s5 s6 s7 s8 s9, σ = [some (.int w), some p, some (.ref o), some (.ref D), some (.ref B), s5, s6, s7, s8, s9, none] ∧ H3 B = some (.lst (ar.map tx)) ∧ LD H3 D ss f ∧ CM w ss k ar f)
      ⟨g2.new hB, [], _, none, none, none, none, none, rfl, upd_same, ld.grow (Grow.refl.new hB), CM.start⟩ (fun k σ H3 _ h => ?_) (fun k x σ H3 ex h => ?_) (fun σ H3 h => ?_)
    · have e0 := h.1 o _ ho
      exact ⟨fun xs hx => (by
        rcases hx with (z | ⟨_, z⟩) | z
        · rw [keepA (g2 _ _ ho) hB] at z; cases z; exact SqL.of e0
        · rw [keepA (g2 _ _ ho) hB] at z; cases z
        · exact .inr z), fun xs hx => (by
        rcases hx with (z | ⟨_, z⟩) | z
        · rw [keepA (g2 _ _ ho) hB] at z; cases z
        · rw [keepA (g2 _ _ ho) hB] at z; cases z
        · exact .inr z)⟩
    · obtain ⟨g3, ar, f, s5, s6, s7, s8, s9, rfl, hb3, ld3, cm⟩ := h
      rw [List.getElem?_map] at ex
      obtain ⟨s, es, rfl⟩ : ∃ s, ss[k]? = some s ∧ tx s = x := by
        cases es : ss[k]? with
        | none => rw [es] at ex; cases ex
        | some s => rw [es] at ex; exact ⟨s, rfl, Option.some.inj ex⟩
      have hk2 : k < ss.length := (List.getElem?_eq_some_iff.mp es).1
      have hsd := ok s (List.mem_of_getElem? es)
      -- behind the while
      have after : ∀ (ar' : List (List Nat)) (H4 : Hp), Grow H H4 → H4 B = some (.lst (ar'.map tx)) → LD H4 D ss f → StkAt (ss.take k) ar' s → ar'.length ≤ k → (ar' = [] ∨ ∃ a0 t, ar' = a0 ++ [t] ∧ t <+: s) →
          wS K W (.cons (moveB spSizeOf spBeginOf) (.cons pushB .nil)) { Dn Q with nx := fun σ H3 => Grow H H3 ∧ ∃ ar f s5 s6 s7 s8 s9, σ = [some (.int w), some p, some (.ref o), some (.ref D), some (.ref B), s5, s6, s7, s8, s9, none] ∧ H3 B = some (.lst (ar.map tx)) ∧ LD H3 D ss f ∧ CM w ss (k + 1) ar f } [some (.int w), some p, some (.ref o), some (.ref D), some (.ref B), some (tx s), s6, s7, s8, s9, none] H4 := by
        intro ar' H4 g4 hb4 ld4 sk hlen htop
        refine ⟨Nat.zero_le _, fun r hr => ?_⟩
        refine ne_nilC (xs := ar') (SqL.of (keepA hb4 hr)) (SqL.of upd_same) (ok_ascii ok fun q hq => List.mem_of_mem_take (sk.sub q hq)) ?_
        have push : ∀ (ar2 : List (List Nat)) (f2 : List Nat → Nat × Nat) (u6 u7 u8 u9 : Option V) (H5 : Hp), Grow H H5 → H5 B = some (.lst (ar2.map tx)) → LD H5 D ss f2 → ar2.length ≤ k → CM w ss (k + 1) (ar2 ++ [s]) f2 →
            wS K W (.cons pushB .nil) { Dn Q with nx := fun σ H3 => Grow H H3 ∧ ∃ ar f s5 s6 s7 s8 s9, σ = [some (.int w), some p, some (.ref o), some (.ref D), some (.ref B), s5, s6, s7, s8, s9, none] ∧ H3 B = some (.lst (ar.map tx)) ∧ LD H3 D ss f ∧ CM w ss (k + 1) ar f } [some (.int w), some p, some (.ref o), some (.ref D), some (.ref B), some (tx s), u6, u7, u8, u9, none] H5 := by
          intro ar2 f2 u6 u7 u8 u9 H5 g5 hb5 ld5 hl5 cm5
          refine ⟨⟨_, hb5⟩, _, hb5, by rw [List.length_map]; omega, g5.fresh hB0, ar2 ++ [s], f2, _, _, _, _, _, rfl, ?_, ld5.lst hb5, cm5⟩
          rw [upd_same, List.map_append]; rfl
        rcases htop with rfl | ⟨a0, t, rfl, ht⟩
        · exact push [] f s6 s7 s8 s9 _ (g4.new hr) (keepA hb4 hr) (ld4.grow (Grow.refl.new hr)) (Nat.zero_le _) (cm.first ok ord hn es sk)
        · have e1 : (!(a0 ++ [t]).isEmpty) = true := by cases a0 <;> rfl
          rw [e1]
          obtain ⟨tss, zle, cm2⟩ := cm.next ok ord es sk ht hlen
          obtain ⟨at', dg, hp⟩ := (ld4.grow (Grow.refl.new (o := .lst []) hr)).get tss
          have hb5 : upd H4 r (.lst []) B = some (.lst ((a0 ++ [t]).map tx)) := keepA hb4 hr
          refine ⟨w, s, rfl, hw, hsd.2, w, s, rfl, hw, hsd.2, _, _, rfl, ?_⟩
          refine Or.inl ⟨B, _, -1, _, rfl, rfl, SqL.of hb5, last_tx, ?_⟩
          refine Or.inr (Or.inr ⟨_, dg, ?_⟩)
          refine ⟨at', _, rfl, .inl (.inl hp), rfl, _, _, rfl, _, _, rfl, rfl, ?_⟩
          refine ⟨rfl, ?_⟩
          show if (decide (V.int ((f t).2 : Nat) = V.int (bgW w s : Nat))) = true then _ else _
          have e3 : decide (V.int ((f t).2 : Nat) = V.int (bgW w s : Nat)) = decide ((f t).2 = bgW w s) := by
            rw [Bool.eq_iff_iff, decide_eq_true_eq, decide_eq_true_eq]
            constructor
            · intro e; injection e with e; omega
            · intro e; rw [e]
          rw [e3]
          have e4 : (((f t).1 : Nat) : Int) - ((szW w s : Nat) : Int) = (((f t).1 - szW w s : Nat) : Int) := by omega
          have fin : ∀ x2 : Nat, x2 = (if (f t).2 = bgW w s then bgW w s + szW w s else (f t).2) → ([V.int (((f t).1 : Nat) - (szW w s : Nat)), V.int (x2 : Nat)] : List V).length ≤ sizeLine ∧ ∀ r2, upd H4 r (.lst []) r2 = none →
              wG K W (.sub (.v 3) (.sub (.v 4) (.un .USub (.c (.int 1))))) (.ref r2) [some (.int w), some p, some (.ref o), some (.ref D), some (.ref B), some (tx s), some (.int (szW w s : Nat)), some (.int (bgW w s : Nat)), some (.int ((f t).1 : Nat)), some (.int ((f t).2 : Nat)), none] (upd (upd H4 r (.lst [])) r2 (.tup [V.int (((f t).1 : Nat) - (szW w s : Nat)), V.int (x2 : Nat)]))
                (wS K W (.cons pushB .nil) { Dn Q with nx := fun σ H3 => Grow H H3 ∧ ∃ ar f s5 s6 s7 s8 s9, σ = [some (.int w), some p, some (.ref o), some (.ref D), some (.ref B), s5, s6, s7, s8, s9, none] ∧ H3 B = some (.lst (ar.map tx)) ∧ LD H3 D ss f ∧ CM w ss (k + 1) ar f }) := by
            intro x2 ex2
            refine ⟨by show 2 ≤ sizeLine; decide, fun r2 hr2 => ?_⟩
            rw [e4]
            have hb6 : upd (upd H4 r (.lst [])) r2 (pr ((f t).1 - szW w s, x2)) B = some (.lst ((a0 ++ [t]).map tx)) := keepA hb5 hr2
            have ld6 := ld4.grow ((Grow.refl.new (o := .lst []) hr).new (o := pr ((f t).1 - szW w s, x2)) hr2)
            obtain ⟨kvs6, k61, k62, k63⟩ := ld6.put tss (a := r2) upd_same
            refine Or.inl ⟨B, _, -1, _, rfl, rfl, SqL.of hb6, last_tx, ?_⟩
            refine Or.inr ⟨D, _, rfl, DPut.k (k := ky t) k61 (by omega), ?_⟩
            have hD0 : H D = none := hD
            have nBD : B ≠ D := fun e => by rw [e] at hb6; rw [k61] at hb6; cases hb6
            rw [← ex2] at cm2
            exact push (a0 ++ [t]) _ _ _ _ _ _ (((g4.new hr).new hr2).fresh hD0) (by rw [upd_ne nBD]; exact hb6) k63 hlen cm2
          split
          · rename_i hc
            rw [decide_eq_true_eq] at hc
            have := fin (bgW w s + szW w s) (by rw [if_pos hc])
            exact this
          · rename_i hc
            rw [decide_eq_true_eq] at hc
            exact fin (f t).2 (by rw [if_neg hc])
      show wS K W (.cons whileB _) _ [some (.int w), some p, some (.ref o), some (.ref D), some (.ref B), some (tx s), s6, s7, s8, s9, none] H3
      refine ⟨fun m σ H4 => σ = [some (.int w), some p, some (.ref o), some (.ref D), some (.ref B), some (tx s), s6, s7, s8, s9, none] ∧ ∃ ar', m = ar'.length ∧ Grow H H4 ∧ H4 B = some (.lst (ar'.map tx)) ∧ LD H4 D ss f ∧ StkAt (ss.take k) ar' s ∧ ar'.length ≤ k, ⟨_, rfl, ar, rfl, g3, hb3, ld3, cm.at ord es, cm.len⟩, ?_⟩
      rintro m σ H4 ⟨rfl, ar', rfl, g4, hb4, ld4, sk, hlen⟩
      refine ⟨Nat.zero_le _, fun r hr => ?_⟩
      refine ne_nilC (xs := ar') (SqL.of (keepA hb4 hr)) (SqL.of upd_same) (ok_ascii ok fun q hq => List.mem_of_mem_take (sk.sub q hq)) ?_
      have g5 : Grow H (upd H4 r (.lst [])) := g4.new hr
      have ld5 := ld4.grow (Grow.refl.new (o := .lst []) hr)
      rcases List.eq_nil_or_concat ar' with rfl | ⟨a0, t, rfl⟩
      · exact after [] _ g5 (keepA hb4 hr) ld5 sk hlen (.inl rfl)
      · rw [List.concat_eq_append] at *
        have e1 : (!(a0 ++ [t]).isEmpty) = true := by cases a0 <;> rfl
        rw [e1]
        have hb5 : upd H4 r (.lst []) B = some (.lst ((a0 ++ [t]).map tx)) := keepA hb4 hr
        refine ⟨trivial, Or.inl ⟨B, _, -1, _, rfl, rfl, SqL.of hb5, last_tx, ?_⟩⟩
        show if (!(Txt.startswith (T s) (T t))) = true then _ else _
        rw [startswith_tx]
        by_cases ht : t <+: s
        · rw [List.isPrefixOf_iff_prefix.mpr ht]
          exact after (a0 ++ [t]) _ g5 hb5 ld5 sk hlen (.inr ⟨a0, t, rfl, ht⟩)
        · have e2 : t.isPrefixOf s = false := (Bool.not_eq_true _).mp fun z => ht (List.isPrefixOf_iff_prefix.mp z)
          rw [e2]
          refine ⟨fun σ' H' => σ' = [some (.int w), some p, some (.ref o), some (.ref D), some (.ref B), some (tx s), s6, s7, s8, s9, none] ∧ Grow H H' ∧ H' B = some (.lst (a0.map tx)) ∧ LD H' D ss f, fun σ' H' ⟨e, z1, z2, z3⟩ => ⟨a0.length, by simp, e, a0, rfl, z1, z2, z3, sk.pop ht, by simp at hlen; omega⟩, ?_⟩
          refine ⟨⟨_, hb5⟩, _, tx t, hb5, by simp, rfl, g5.fresh hB0, ?_, ld5.lst hb5⟩
          rw [upd_same, List.map_append, List.map_cons, List.map_nil, List.dropLast_concat]
    · obtain ⟨g3, ar, f, s5, s6, s7, s8, s9, rfl, hb3, ld3, cm⟩ := h
      have hd := cm.done
      rw [et] at hd
      exact rd_tell ok hw hs nd ld3 hd fun l H' n => q l H' (n.back g3)
theorem nilT : ("" : Str) = T [] := by decide +kernel
theorem head_nil {xs ss : List (List Nat)} (h : IsS xs ss) : ss.head? = some [] := by
  have hm := (h.mem []).mpr (.inl rfl)
  cases ss with
  | nil => simp at hm
  | cons x r =>
    rcases List.mem_cons.mp hm with e | e
    · rw [← e]; rfl
    · have := (List.pairwise_cons.mp h.ord).1 [] e
      cases x <;> simp [ltCps] at this
theorem isS_len {xs ss : List (List Nat)} (h : IsS xs ss) : ss.length ≤ xs.length + 1 := by
  have hn := ord_nodup h.ord
  have : ∀ {a b : List (List Nat)}, a.Nodup → (∀ x ∈ a, x ∈ b) → a.length ≤ b.length := by
    intro a
    induction a with
    | nil => intros; simp
    | cons x r ih =>
      intro b hn hs
      rw [List.nodup_cons] at hn
      have hx := hs x (by simp)
      have := ih (b := b.erase x) hn.2 fun y hy => by
        rw [List.mem_erase_of_ne (show y ≠ x from fun e => hn.1 (e ▸ hy))]
        exact hs y (by simp [hy])
      rw [List.length_erase_of_mem hx] at this
      have : 0 < b.length := List.length_pos_of_mem hx
      rw [List.length_cons]; omega
  have := this hn (b := [] :: xs) fun x hx => by
    rcases (h.mem x).mp hx with e | e
    · rw [e]; simp
    · exact List.mem_cons_of_mem _ e
  simpa using this
theorem rd_cellRows (vs : List V) (H : Hp) (Q : VK) (R : XK) (h : spCellRows K vs H Q R) : vs.length = 2 ∧ wS K W (cellRowsB spSizeOf spBeginOf spAddressOf) (Dn Q) (start ["a", "b", "c", "d", "e", "f", "g", "h", "i", "j", "k"] vs) H := by
  obtain ⟨w, p, xs, rfl, w1, w2, hl, hs, ok, q⟩ := h
  have hz : (sizeLine : Nat) = 16777216 := sizeLine_eq
  refine ⟨rfl, xs.map tx, hs, fun l hL => ⟨by show 1 ≤ sizeLine; decide, fun b hb => ?_⟩⟩
  refine Or.inl ⟨l, b, _, _, rfl, rfl, keepA upd_same hb, upd_same, by rw [List.length_map]; simp; omega, fun r hr => ?_⟩
  have el : (xs.map tx ++ [V.str ""]) = (xs.map T ++ [T []]).map V.str := by
    rw [List.map_append, List.map_map, nilT]; rfl
  refine ⟨r, xs.map T ++ [T []], rfl, SqL.of (by rw [upd_same, el]), ?_, fun ys o h1 h2 h3 ho => ?_⟩
  · show _ < 4096
    simp; omega
  · have g : Grow H (upd (upd (upd (upd H l (.lst (xs.map tx))) b (.lst [V.str ""])) r (.lst (xs.map tx ++ [V.str ""]))) o (.lst (ys.map V.str))) := (((Grow.refl.new hL).new hb).new hr).new ho
    obtain ⟨s1, s2⟩ := isS_of (xs := xs) h1 h2 h3 fun x => by
      rw [List.mem_append, List.mem_singleton, List.mem_map]
      constructor
      · rintro (⟨y, hy, e⟩ | e)
        · rw [← T_inj e]; exact .inr hy
        · exact .inl (T_inj e)
      · rintro (e | e)
        · rw [e]; exact .inr rfl
        · exact .inl ⟨x, e, rfl⟩
    have eo : (ys.map V.str) = (ys.map fun z => z.cps.toList).map tx := by
      rw [List.map_map]
      exact List.map_congr_left fun z _ => by show V.str z = V.str (T z.cps.toList); rw [T_cps']
    rw [eo]
    rw [eo] at g
    refine rd_rows2 (ss := ys.map fun z => z.cps.toList) upd_same (fun x hx => ?_) w2 (by have := isS_len s1; omega) s1.ord (head_nil s1) fun l' H' n => q _ l' H' s1 (n.back g)
    rcases (s1.mem x).mp hx with e | e
    · rw [e]; exact ⟨fun c hc => (nomatch hc), by simp⟩
    · exact ok x e
def cellsB (s1 s2 s3 : Sp) : S := .cons (.ex (.call s1 (.cons (.v 0) (.nil)) (.nil) [.p 0])) (.cons (.ex (.call s2 (.cons (.v 0) (.cons (.v 1) (.nil))) (.nil) [.p 0, .p 1])) (.cons (.ret (.call s3 (.cons (.v 0) (.cons (.v 1) (.nil))) (.nil) [.p 0, .p 1])) (.nil)))
theorem rd_cells (vs : List V) (H : Hp) (Q : VK) (R : XK) (h : spCellRows K vs H Q R) : vs.length = 2 ∧ wS K W (cellsB spWantWidth (spWantStretches K) (spCellRows K)) (Dn Q) (start ["a", "b"] vs) H := by
  obtain ⟨w, p, xs, rfl, w1, w2, hl, hs, ok, q⟩ := h
  refine ⟨rfl, w, rfl, by omega, by omega, w, p, xs, rfl, w1, w2, hs, ok, fun H1 g => ?_⟩
  exact ⟨w, p, xs, rfl, w1, w2, hl, g.sq hs, ok, fun ss l H' s n => q ss l H' s (n.back g)⟩
end
end CW

namespace CW
open PySem PySem.Spec PyProof.Rows L2
/-! ## 22. More words for laws -/
section
variable {K : PySem.W.Frag} {W : WX}
theorem kp_lst {H H' : Hp} {l : Addr} {xs : List V} (h : H l = some (.lst xs)) (h' : H' l = some (.lst xs)) : Kp K l H H' := by
  refine ⟨fun ys hy => ?_, fun ys hy => ?_⟩
  · rcases hy with (z | ⟨_, z⟩) | z
    · rw [h] at z; cases z; exact SqL.of h'
    · rw [h] at z; cases z
    · exact .inr z
  · rcases hy with (z | ⟨_, z⟩) | z
    · rw [h] at z; cases z
    · rw [h] at z; cases z
    · exact .inr z
theorem it_sql {p : Addr} {xs : List V} {σ : L2.St} {H : Hp} {g : TG} {tb : TS} {D : Ends} (hs : SqL K H p xs) (Pv : Nat → L2.St → Hp → Prop) (h0 : Pv 0 σ H) (hk : ∀ k σ2 H2, k ≤ xs.length → Pv k σ2 H2 → SqL K H2 p xs)
    (step : ∀ k x σ2 H2, xs[k]? = some x → Pv k σ2 H2 → g x σ2 H2 fun σ3 H3 => tb { D with nx := Pv (k + 1), ct := Pv (k + 1), bk := D.nx } σ3 H3)
    (done : ∀ σ2 H2, Pv xs.length σ2 H2 → D.nx σ2 H2) : iVal K (.ref p) H fun J H1 => ∃ Wn : Nat → Nat → L2.St → Hp → Prop, (∃ m, Wn 0 m σ H1) ∧ ∀ i m σ H, Wn i m σ H →
      (J.stop i H ∧ D.nx σ H) ∨ (J.go i H ∧ ∃ N : L2.St → Hp → Prop, (∀ σ' H', N σ' H' → ∃ m', m' < m ∧ Wn (i + 1) m' σ' H') ∧ ∀ x H', J.yld i H x H' → g x σ H' fun σ2 H2 => tb { D with nx := N, ct := N, bk := D.nx } σ2 H2) := by
  refine Or.inl ⟨⟨xs, hs⟩, ?_⟩
  refine for_it walk_list Pv h0 hk (fun k x σ2 H2 H3 hi z y => ?_) done
  obtain ⟨rfl, e⟩ := y
  exact step k x σ2 _ e z
theorem for_sql {p : Addr} {xs : List V} {t : E} {b r : S} {D : Ends} {σ : L2.St} {H : Hp} {i : Nat} (hσ : σ[i]? = some (some (.ref p))) (hs : SqL K H p xs) (Pv : Nat → L2.St → Hp → Prop) (h0 : Pv 0 σ H) (hk : ∀ k σ2 H2, k ≤ xs.length → Pv k σ2 H2 → SqL K H2 p xs)
    (step : ∀ k x σ2 H2, xs[k]? = some x → Pv k σ2 H2 → wG K W t x σ2 H2 fun σ3 H3 => wS K W b { D with nx := Pv (k + 1), ct := Pv (k + 1), bk := wS K W r D } σ3 H3)
    (done : ∀ σ2 H2, Pv xs.length σ2 H2 → wS K W r D σ2 H2) : wS K W (.cons (.for_ t (.v i) b) r) D σ H := by
  show (match σ[i]? with | some (some x) => iVal K x H _ | _ => False)
  rw [hσ]
  exact it_sql hs Pv h0 hk step done
/-- range(n), once n is known -/
theorem rng_go {g : TG} {tb : TS} {D : Ends} {σ : L2.St} {H : Hp} {n : Nat} (hn : n < 1000000) (Pv : Nat → L2.St → Hp → Prop) (h0 : Pv 0 σ H)
    (step : ∀ k σ2 H2, k < n → Pv k σ2 H2 → g (.int (k : Nat)) σ2 H2 fun σ3 H3 => tb { D with nx := Pv (k + 1), ct := Pv (k + 1), bk := D.nx } σ3 H3)
    (done : ∀ σ2 H2, Pv n σ2 H2 → D.nx σ2 H2) : ∃ j : Int, [V.int (n : Nat)] = [V.int j] ∧ -(2 ^ 62) ≤ j ∧ j < 2 ^ 62 ∧ ∃ Wn : Nat → Nat → L2.St → Hp → Prop, (∃ m, Wn 0 m σ H) ∧ ∀ i m σ H, Wn i m σ H →
      ((Itr 0 j.toNat).stop i H ∧ D.nx σ H) ∨ ((Itr 0 j.toNat).go i H ∧ ∃ N : L2.St → Hp → Prop, (∀ σ' H', N σ' H' → ∃ m', m' < m ∧ Wn (i + 1) m' σ' H') ∧ ∀ x H', (Itr 0 j.toNat).yld i H x H' → g x σ H' fun σ2 H2 => tb { D with nx := N, ct := N, bk := D.nx } σ2 H2) := by
  refine ⟨_, rfl, by omega, by omega, ?_⟩
  refine for_it walk_range Pv h0 (fun _ _ _ _ _ => trivial) (fun k x σ2 H2 H3 hi z y => ?_) (fun σ2 H2 h => done σ2 H2 (by simpa using h))
  obtain ⟨rfl, rfl⟩ := y
  have e0 : (0 : Int) + (k : Int) = k := by omega
  show g (.int ((0 : Int) + (k : Int))) _ _ _
  rw [e0]
  exact step k σ2 _ (by simpa using hi) z
/-! ### a dict from texts, by its keys in their order -/
def setV (g : List Nat → V) (s : List Nat) (x : V) (q : List Nat) : V := if q = s then x else g q
theorem setV_same {g : List Nat → V} {s : List Nat} {x : V} : setV g s x s = x := if_pos rfl
theorem setV_ne {g : List Nat → V} {s q : List Nat} {x : V} (h : q ≠ s) : setV g s x q = g q := if_neg h
structure KD (H : Hp) (D : Addr) (ks : List (List Nat)) (g : List Nat → V) : Prop where
  nd : ks.Nodup
  ex : ∃ kvs, H D = some (.dK kvs) ∧ kvs.map (·.1) = ks.map ky ∧ ∀ s ∈ ks, valV kvs (ky s) = some (g s)
theorem KD.congr {H H' : Hp} {D : Addr} {ks : List (List Nat)} {g : List Nat → V} (h : KD H D ks g) (hd : ∀ kvs, H D = some (.dK kvs) → H' D = some (.dK kvs)) : KD H' D ks g := by
  obtain ⟨kvs, h1, h2, h3⟩ := h.ex
  exact ⟨h.nd, kvs, hd _ h1, h2, h3⟩
theorem KD.len {H : Hp} {D : Addr} {ks : List (List Nat)} {g : List Nat → V} (_ : KD H D ks g) {kvs : List (Key × V)} (h2 : kvs.map (·.1) = ks.map ky) : kvs.length = ks.length := by
  have := congrArg List.length h2
  simpa using this
theorem KD.get {H : Hp} {D : Addr} {ks : List (List Nat)} {g : List Nat → V} {s : List Nat} (h : KD H D ks g) (hs : s ∈ ks) : DGet H D (tx s) (some (g s)) := by
  obtain ⟨kvs, h1, h2, h3⟩ := h.ex
  have := DGet.k (k := ky s) h1
  rw [h3 s hs] at this
  exact this
/-- another value at a key that is there -/
theorem KD.put {H : Hp} {D : Addr} {ks : List (List Nat)} {g : List Nat → V} {s : List Nat} (x : V) (h : KD H D ks g) (hs : s ∈ ks) (hl : ks.length < 1000000) : ∃ H', DPut H D (tx s) x H' ∧ KD H' D ks (setV g s x) ∧ ∀ b, b ≠ D → H' b = H b := by
  obtain ⟨kvs, h1, h2, h3⟩ := h.ex
  have hz : (sizeLine : Nat) = 16777216 := sizeLine_eq
  refine ⟨_, DPut.k (k := ky s) h1 (by rw [h.len h2]; omega), ⟨h.nd, _, upd_same, ?_, fun q hq => ?_⟩, fun b hb => upd_ne hb⟩
  · rw [putK_keys (by rw [h2]; exact List.mem_map_of_mem hs), h2]
  · by_cases e : q = s
    · subst e; rw [valV_put, if_pos rfl, setV_same]
    · rw [valV_put, if_neg (fun z => e (ky_inj z)), setV_ne e]; exact h3 q hq
/-- a new key -/
theorem KD.add {H : Hp} {D : Addr} {ks : List (List Nat)} {g : List Nat → V} {s : List Nat} (x : V) (h : KD H D ks g) (hs : s ∉ ks) (hl : ks.length < 1000000) : ∃ H', DPut H D (tx s) x H' ∧ KD H' D (ks ++ [s]) (setV g s x) ∧ ∀ b, b ≠ D → H' b = H b := by
  obtain ⟨kvs, h1, h2, h3⟩ := h.ex
  have hz : (sizeLine : Nat) = 16777216 := sizeLine_eq
  have hn : valV kvs (ky s) = none := by
    cases e : valV kvs (ky s) with
    | none => rfl
    | some v =>
      have := valV_in e
      rw [h2] at this
      obtain ⟨u, e1, e2⟩ := List.mem_map.mp this
      exact absurd (ky_inj e2 ▸ e1) hs
  refine ⟨_, DPut.k (k := ky s) h1 (by rw [h.len h2]; omega), ⟨?_, _, upd_same, ?_, fun q hq => ?_⟩, fun b hb => upd_ne hb⟩
  · rw [List.nodup_append]
    refine ⟨h.nd, by simp, fun a ha b hb e => ?_⟩
    have : b = s := by simpa using hb
    exact hs (this ▸ e ▸ ha)
  · rw [putK_new _ hn, List.map_append, h2, List.map_append]; rfl
  · by_cases e : q = s
    · subst e; rw [valV_put, if_pos rfl, setV_same]
    · rw [valV_put, if_neg (fun z => e (ky_inj z)), setV_ne e]
      exact h3 q ((List.mem_append.mp hq).resolve_right (by simpa using e))
/-- a key, there or not -/
theorem KD.set {H : Hp} {D : Addr} {ks : List (List Nat)} {g : List Nat → V} (s : List Nat) (x : V) (h : KD H D ks g) (hl : ks.length < 1000000) : ∃ H', DPut H D (tx s) x H' ∧ KD H' D (if s ∈ ks then ks else ks ++ [s]) (setV g s x) ∧ ∀ b, b ≠ D → H' b = H b := by
  by_cases hs : s ∈ ks
  · rw [if_pos hs]; exact h.put x hs hl
  · rw [if_neg hs]; exact h.add x hs hl
theorem KD.ref {H : Hp} {D : Addr} {ks : List (List Nat)} {g : List Nat → V} (h : KD H D ks g) : ∃ kvs, H D = some (.dK kvs) := let ⟨kvs, e, _⟩ := h.ex; ⟨kvs, e⟩
/-! ### drawn bits -/
def spBits : Sp := fun vs H Q _ => ∃ (p : Addr) (a b : Nat), vs = [.ref p, .int a, .int b] ∧ Pot H p ∧ a ≤ b ∧ b ≤ 200 ∧ ∀ (l : List Nat) (H' : Hp), a ≤ l.length → l.length ≤ b → Bt l → Chg p H H' → Q (tx l) H'
def bitsB (s1 s2 : Sp) : S := .cons (.ret (.joind (.c (.str "")) (.lc (.call s2 (.cons (.v 0) (.cons (.c (.str "01")) (.nil))) (.nil) [.p 0, .p 1]) (.v 3) (.rng1 (.cons (.bin .Add (.v 1) (.call s1 (.cons (.v 0) (.cons (.bin .Add (.bin .Sub (.v 2) (.v 1)) (.c (.int 1))) (.nil))) (.nil) [.p 0, .p 1])) (.nil))) (.nil) [3]))) (.nil)
theorem rd_bits (vs : List V) (H : Hp) (Q : VK) (R : XK) (h : spBits vs H Q R) : vs.length = 3 ∧ wS K W (bitsB spDraw (spAmong K)) (Dn Q) (start ["a", "b", "c", "d"] vs) H := by
  obtain ⟨p, a, b, rfl, hp, h1, h2, q⟩ := h
  refine ⟨rfl, ⟨_, rfl⟩, ?_⟩
  refine ⟨p, _, rfl, hp, by omega, by omega, fun d H' d0 d1 ch => ?_⟩
  refine ⟨_, rfl, by omega, by omega, ?_⟩
  refine join_turns (p := p) (P := fun c => isBit c = true) ch.pot (by omega) (fun t H2 Q' hp2 _ q' => ?_) (fun cs H3 hl hc ch3 => ?_)
  · refine ⟨p, _, rfl, hp2, .inr (.inl ⟨"01", rfl, by decide, by decide, fun c H3 hc ch3 => q' c H3 ?_ ch3⟩)⟩
    rw [← bitIn2]; exact decide_eq_true hc
  · exact q cs _ (by omega) (by omega) hc (ch.trans ch3)
theorem Fit.r2 {w k : Nat} {d : PyData} (f : Fit w k d) (hk : k ≤ 60) : d.depth ≤ 60 := Nat.le_trans f.dep hk
theorem Fit.r3 {w k : Nat} {d : PyData} (f : Fit w k d) (hw : w ≤ 1048576) (hk : k ≤ 60) : d.shown.length ≤ sizeLine := by
  have := f.dep
  have := f.wei
  have hz : (sizeLine : Nat) = 16777216 := sizeLine_eq
  have z : d.shown.length ≤ 15728653 := shown_le13 (by
    unfold PyData.layable0
    rw [f.lay, decide_eq_true (by omega), decide_eq_true (by omega)]; rfl) f.ish
  omega
theorem get_tx {xs : List (List Nat)} {k : Nat} {x : V} (h : (xs.map tx)[k]? = some x) : ∃ s, xs[k]? = some s ∧ x = tx s := by
  rw [List.getElem?_map] at h
  cases es : xs[k]? with
  | none => rw [es] at h; cases h
  | some s => rw [es] at h; exact ⟨s, rfl, (Option.some.inj h).symm⟩
theorem zeroT : ("0" : Str) = T [48] := by decide +kernel
theorem oneT : ("1" : Str) = T [49] := by decide +kernel
end
end CW

namespace CW
open PySem PySem.Spec PyProof.Rows L2
/-! ## 30. Names, goals, rows -/
def isLet (c : Nat) : Bool := decide (97 ≤ c) && decide (c ≤ 122)
def kept : List V := [.str "home", .str "hole", .str "ring", .str "all", .str "none"]
def isName : V → Bool
  | .str z => (decide (1 ≤ z.length) && decide (z.length ≤ 6)) && (z.cps.toList.all isLet && !inV (.str z) kept)
  | _ => false
def isGoal : V → Bool
  | .str z => isName (.str z) || inV (.str z) [.str "home", .str "hole"]
  | _ => false
def spIsName (K : PySem.W.Frag) : Sp := fun vs H Q _ => ∃ x, vs = [x] ∧ Kn K H x ∧ Q (.bl (isName x)) H
def spIsGoal (K : PySem.W.Frag) : Sp := fun vs H Q _ => ∃ x, vs = [x] ∧ Kn K H x ∧ Q (.bl (isGoal x)) H
def isNameB (kw : Addr) : S := .cons (.ite (.or (.not (.isA (.v 0) [.str])) (.not (.cmp2 .LtE .LtE (.c (.int 1)) (.bi .len (.cons (.v 0) (.nil))) (.c (.int 6))))) (.cons (.ret (.c (.bl false))) (.nil)) (.nil)) (.cons (.ret (.and (.bid .all (.lc (.cmp .In (.v 1) (.c (.str "abcdefghijklmnopqrstuvwxyz"))) (.v 1) (.v 0) (.nil) [1])) (.cmp .NotIn (.v 0) (.c (.ref kw))))) (.nil))
def isGoalB (s1 : Sp) : S := .cons (.ret (.or (.call s1 (.cons (.v 0) (.nil)) (.nil) [.p 0]) (.and (.isA (.v 0) [.str]) (.inT false (.v 0) (.cons (.c (.str "home")) (.cons (.c (.str "hole")) (.nil))))))) (.nil)
section
variable {K : PySem.W.Frag} {W : WX}
theorem let_in (c : Nat) : decide (c ∈ ("abcdefghijklmnopqrstuvwxyz" : Str).cps.toList) = isLet c := by
  have e : ("abcdefghijklmnopqrstuvwxyz" : Str).cps.toList = List.range' 97 26 := by decide +kernel
  rw [e, Bool.eq_iff_iff]
  simp only [decide_eq_true_eq, isLet, Bool.and_eq_true, List.mem_range']
  constructor
  · rintro ⟨i, h1, h2⟩; omega
  · intro h; exact ⟨c - 97, by omega, by omega⟩
theorem rd_isName {kw : Addr} (hA : ∀ H, SqT K H kw kept) (vs : List V) (H : Hp) (Q : VK) (R : XK) (h : spIsName K vs H Q R) : vs.length = 1 ∧ wS K W (isNameB kw) (Dn Q) (start ["a", "b"] vs) H := by
  obtain ⟨x, rfl, hk, q⟩ := h
  refine ⟨rfl, ?_⟩
  cases x with
  | str z =>
    refine ⟨Nat.le_trans hk (by decide), ?_⟩
    have q : Q (.bl ((decide (1 ≤ z.length) && decide (z.length ≤ 6)) && (z.cps.toList.all isLet && !inV (.str z) kept))) H := q
    have e1 : decide ((1 : Int) ≤ (z.length : Int)) = decide (1 ≤ z.length) := by rw [Bool.eq_iff_iff]; simp only [decide_eq_true_eq]; omega
    have e2 : decide ((z.length : Int) ≤ 6) = decide (z.length ≤ 6) := by rw [Bool.eq_iff_iff]; simp only [decide_eq_true_eq]; omega
    show if decide ((1 : Int) ≤ (z.length : Int)) = true then _ else _
    rw [e1]
    have more : wE K W (.and (.bid .all (.lc (.cmp .In (.v 1) (.c (.str "abcdefghijklmnopqrstuvwxyz"))) (.v 1) (.v 0) .nil [1])) (.cmp .NotIn (.v 0) (.c (.ref kw)))) [some (.str z), none] H (fun v H' => Q (.bl (decide (1 ≤ z.length) && decide (z.length ≤ 6))) H → Q v H') → True := fun _ => trivial
    by_cases c1 : 1 ≤ z.length
    · rw [if_pos (decide_eq_true c1)]
      rw [decide_eq_true c1, Bool.true_and] at q
      show if (!decide ((z.length : Int) ≤ 6)) = true then _ else _
      rw [e2]
      by_cases c2 : z.length ≤ 6
      · rw [decide_eq_true c2] at q ⊢
        rw [if_neg (by decide)]
        rw [Bool.true_and] at q
        show wE K W (.bid .all (.lc (.cmp .In (.v 1) (.c (.str "abcdefghijklmnopqrstuvwxyz"))) (.v 1) (.v 0) .nil [1])) [some (.str z), none] H (fun x H1 => match x with | .bl k => if k = true then rCmp K .NotIn (.str z) (.ref kw) H1 Q else Q (.bl false) H1 | _ => False)
        refine all_str isLet hk rfl (fun c _ H' Q' q' => ⟨c, rfl, ?_⟩) ?_
        · rw [let_in]; exact q'
        · show if z.cps.toList.all isLet = true then _ else _
          split
          · rename_i e; rw [e, Bool.true_and] at q
            exact Or.inl ⟨_, kept, rfl, .inr (hA H), rfl, by decide, q⟩
          · rename_i e; rw [(Bool.not_eq_true _).mp e] at q; exact q
      · rw [decide_eq_false c2] at q ⊢
        rw [if_pos (by decide)]
        exact q
    · rw [if_neg (by simpa using c1)]
      rw [decide_eq_false c1] at q
      exact q
  | ref p =>
    obtain ⟨t, ht, hT⟩ := hk
    refine ⟨t, ht, hT, ?_⟩
    rcases ht with rfl | rfl | rfl <;> exact q
  | _ => first | exact q | exact hk.elim
theorem rd_isGoal (vs : List V) (H : Hp) (Q : VK) (R : XK) (h : spIsGoal K vs H Q R) : vs.length = 1 ∧ wS K W (isGoalB (spIsName K)) (Dn Q) (start ["a"] vs) H := by
  obtain ⟨x, rfl, hk, q⟩ := h
  refine ⟨rfl, x, rfl, hk, ?_⟩
  cases x with
  | str z =>
    have q : Q (.bl (isName (.str z) || inV (.str z) [.str "home", .str "hole"])) H := q
    show if isName (.str z) = true then _ else _
    split
    · rename_i e; rw [e] at q; exact q
    · rename_i e
      rw [(Bool.not_eq_true _).mp e, Bool.false_or] at q
      exact ⟨rfl, rfl, by decide, q⟩
  | ref p =>
    obtain ⟨t, ht, hT⟩ := hk
    refine ⟨t, ht, hT, ?_⟩
    rcases ht with rfl | rfl | rfl <;> exact q
  | _ => first | exact q | exact hk.elim
/-- a row -/
def spIsRow (K : PySem.W.Frag) : Sp := fun vs H Q _ => ∃ (w : Nat) (a : Addr) (s g : List Nat), vs = [.int w, .ref a] ∧ 1 ≤ w ∧ w ≤ 100 ∧ SqT K H a [tx s, tx g] ∧ Bt s ∧ s.length ≤ w ∧ g.length ≤ 6 ∧ isGoal (tx g) = true ∧ Q (.bl true) H
def isRowB (s1 s2 : Sp) : S := .cons (.ite (.or (.not (.isA (.v 1) [.tuple])) (.cmp .NotEq (.bi .len (.cons (.v 1) (.nil))) (.c (.int 2)))) (.cons (.ret (.c (.bl false))) (.nil)) (.nil)) (.cons (.ret (.and (.call s1 (.cons (.v 0) (.cons (.sub (.v 1) (.c (.int 0))) (.nil))) (.nil) [.p 0, .p 1]) (.call s2 (.cons (.sub (.v 1) (.c (.int 1))) (.nil)) (.nil) [.p 0]))) (.nil))
theorem rd_isRow (vs : List V) (H : Hp) (Q : VK) (R : XK) (h : spIsRow K vs H Q R) : vs.length = 2 ∧ wS K W (isRowB (spIsStretch K) (spIsGoal K)) (Dn Q) (start ["a", "b"] vs) H := by
  obtain ⟨w, a, s, g, rfl, w1, w2, ha, bs, ls, lg, og, q⟩ := h
  refine ⟨rfl, .tuple, .inr (.inl rfl), ty_sqt ha, ?_⟩
  refine Or.inr (Or.inl ⟨_, ha, rfl, ?_⟩)
  show wS K W (.cons (.ret (.and (.call (spIsStretch K) (.cons (.v 0) (.cons (.sub (.v 1) (.c (.int 0))) (.nil))) (.nil) [.p 0, .p 1]) (.call (spIsGoal K) (.cons (.sub (.v 1) (.c (.int 1))) (.nil)) (.nil) [.p 0]))) (.nil)) (Dn Q) [some (.int w), some (.ref a)] H
  refine Or.inr (Or.inl ⟨a, _, 0, tx s, rfl, rfl, ha, rfl, ?_⟩)
  refine ⟨w, tx s, rfl, by omega, by omega, ?_, ?_⟩
  · show (T s).length ≤ 1000
    rw [T_len]; omega
  have e1 : isStretch w (tx s) = true := by
    show ((T s).cps.toList.all isBit && decide (((T s).length : Int) ≤ w)) = true
    rw [T_len, Bool.and_eq_true, decide_eq_true_eq]
    exact ⟨bs.all, by omega⟩
  rw [e1]
  refine Or.inr (Or.inl ⟨a, _, 1, tx g, rfl, rfl, ha, rfl, ?_⟩)
  refine ⟨tx g, rfl, ?_, ?_⟩
  · show (T g).length ≤ 1000
    rw [T_len]; omega
  rw [og]
  exact q
end
end CW

namespace CW
open PySem PySem.Spec PyProof.Rows L2
/-! ## 31. Rows of a table -/
section
variable {K : PySem.W.Frag} {W : WX}
/-- a dict of rows: stretches of the width w to goals -/
structure RwOk (w : Nat) (ks : List (List Nat)) (g : List Nat → List Nat) : Prop where
  st : ∀ s ∈ ks, Bt s ∧ s.length ≤ w
  gl : ∀ s ∈ ks, (g s).length ≤ 6 ∧ isGoal (tx (g s)) = true
abbrev KG (H : Hp) (D : Addr) (ks : List (List Nat)) (g : List Nat → List Nat) : Prop := KD H D ks fun s => tx (g s)
abbrev kvG (ks : List (List Nat)) (g : List Nat → V) : List (Key × V) := ks.map fun s => (ky s, g s)
theorem kvG_eq {g : List Nat → V} : ∀ {ks : List (List Nat)} {kvs : List (Key × V)}, kvs.map (·.1) = ks.map ky → ks.Nodup → (∀ s ∈ ks, valV kvs (ky s) = some (g s)) → kvs = kvG ks g
  | [], [], _, _, _ => rfl
  | [], _ :: _, h, _, _ => by cases h
  | _ :: _, [], h, _, _ => by cases h
  | s :: t, p :: r, h, nd, hv => by
    have h' : p.1 :: r.map (·.1) = ky s :: t.map ky := h
    injection h' with h1 h2
    have n2 := List.nodup_cons.mp nd
    have e1 := hv s List.mem_cons_self
    rw [valV_pos h1] at e1
    have ih := kvG_eq h2 n2.2 fun s' hs' => by
      have := hv s' (List.mem_cons_of_mem _ hs')
      rwa [valV_neg (fun c => n2.1 (ky_inj (h1.symm.trans c) ▸ hs'))] at this
    show p :: r = (ky s, g s) :: kvG t g
    rw [ih]
    congr 1
    exact Prod.ext h1 (Option.some.inj e1)
theorem KD.eq {H : Hp} {D : Addr} {ks : List (List Nat)} {g : List Nat → V} (h : KD H D ks g) : H D = some (.dK (kvG ks g)) := by
  obtain ⟨kvs, e1, h2, h3⟩ := h.ex
  rw [e1, kvG_eq h2 h.nd h3]
theorem kvG_val {g : List Nat → V} {s : List Nat} : ∀ {ks : List (List Nat)}, s ∈ ks → valV (kvG ks g) (ky s) = some (g s)
  | [], h => nomatch h
  | t :: r, h => by
    show valV ((ky t, g t) :: kvG r g) (ky s) = _
    by_cases e : t = s
    · subst e; exact valV_pos rfl
    · rw [valV_neg (fun c => e (ky_inj c))]
      exact kvG_val ((List.mem_cons.mp h).resolve_left fun c => e c.symm)
theorem kvG_none {g : List Nat → V} {s : List Nat} {ks : List (List Nat)} (h : s ∉ ks) : valV (kvG ks g) (ky s) = none := by
  cases e : valV (kvG ks g) (ky s) with
  | none => rfl
  | some v =>
    have := valV_in e
    rw [List.map_map] at this
    obtain ⟨u, e1, e2⟩ := List.mem_map.mp this
    exact absurd (ky_inj e2 ▸ e1) h
theorem KD.of {H : Hp} {D : Addr} {ks : List (List Nat)} {g : List Nat → V} (nd : ks.Nodup) (h : H D = some (.dK (kvG ks g))) : KD H D ks g :=
  ⟨nd, _, h, by rw [List.map_map]; rfl, fun s hs => kvG_val hs⟩
theorem kvG_get {g : List Nat → V} {ks : List (List Nat)} {i : Nat} {s : List Nat} (h : ks[i]? = some s) : (kvG ks g)[i]? = some (ky s, g s) := by
  rw [List.getElem?_map, h]; rfl
theorem KD.has {H : Hp} {D : Addr} {ks : List (List Nat)} {g : List Nat → V} (h : KD H D ks g) (s : List Nat) : ∃ o, DGet H D (tx s) o ∧ o.isSome = decide (s ∈ ks) := by
  refine ⟨_, DGet.k (k := ky s) h.eq, ?_⟩
  by_cases e : s ∈ ks
  · rw [kvG_val e, decide_eq_true e]; rfl
  · rw [kvG_none e, decide_eq_false e]; rfl
theorem KD.grow {H H' : Hp} {D : Addr} {ks : List (List Nat)} {g : List Nat → V} (h : KD H D ks g) (a : Grow H H') : KD H' D ks g := h.congr fun _ e => a _ _ e
/-- rows, each a new tuple -/
def spAreRows (K : PySem.W.Frag) : Sp := fun vs H Q _ => ∃ (w : Nat) (d : Addr) (ks : List (List Nat)) (g : List Nat → List Nat), vs = [.int w, .ref d] ∧ 1 ≤ w ∧ w ≤ 100 ∧ ks.length ≤ 1000 ∧ KG H d ks g ∧ RwOk w ks g ∧ ∀ H', Grow H H' → Q (.bl true) H'
def areRowsB (s1 : Sp) : S := .cons (.ret (.and (.isA (.v 1) [.dict]) (.bid .all (.lkE (.lc (.call s1 (.cons (.v 0) (.cons (.v 2) (.nil))) (.nil) [.p 0, .p 1]) (.v 2) (.items (.v 1)) (.nil) [2]))))) (.nil)
theorem rd_areRows (vs : List V) (H : Hp) (Q : VK) (R : XK) (h : spAreRows K vs H Q R) : vs.length = 2 ∧ wS K W (areRowsB (spIsRow K)) (Dn Q) (start ["a", "b", "c"] vs) H := by
  obtain ⟨w, d, ks, g, rfl, w1, w2, hl, hd, ok, q⟩ := h
  have hz : (sizeLine : Nat) = 16777216 := sizeLine_eq
  have e := hd.eq
  have k2 : (kvG ks fun s => tx (g s)).length = ks.length := List.length_map ..
  have k3 : ∀ (i : Nat) s, ks[i]? = some s → (kvG ks fun s => tx (g s))[i]? = some (ky s, tx (g s)) := fun i s h => kvG_get h
  generalize (kvG ks fun s => tx (g s)) = kvs at e k2 k3
  refine ⟨rfl, .dict, .inr (.inr rfl), .base (.dK e), ?_⟩
  refine ⟨d, .dK kvs, e, trivial, fun od => ?_⟩
  refine ⟨d, od, kvs, rfl, upd_same, fun D hD => ?_⟩
  have hne : D ≠ d := fun c => by subst c; rw [upd_same] at hD; cases hD
  have hDn : H D = none := by rw [upd_ne hne] at hD; exact hD
  refine lc_it walk_items (fun i H2 => H2 d = some (.frz od (.dK kvs)) ∧ H2 D = some (.lst (List.replicate i (.bl true))) ∧ ∀ b o, b ≠ d → H b = some o → H2 b = some o) ⟨?_, ?_, ?_⟩ (fun i H2 _ h => h.1) (fun i x H2 H3 hi h y => ?_) (fun H2 h => ?_)
  · rw [upd_ne hne.symm, upd_same]
  · rw [upd_same]; rfl
  · intro b o hb hbo
    rw [upd_ne (ne_of_none hbo hDn), upd_ne hb]; exact hbo
  · obtain ⟨T0, x1, y1, rfl, hT, rfl, e1, e2⟩ := y
    obtain ⟨h1, h2, h3⟩ := h
    obtain ⟨s, hs⟩ : ∃ s, ks[i]? = some s := ⟨ks[i]'(by omega), List.getElem?_eq_getElem _⟩
    have e3 := k3 i s hs
    dsimp only at e1 e2
    rw [e3] at e1 e2
    obtain rfl := Option.some.inj e1
    obtain rfl := Option.some.inj e2
    have hms := List.mem_of_getElem? hs
    refine ⟨rfl, ?_⟩
    refine ⟨w, T0, s, g s, rfl, w1, w2, .inl (.inl upd_same), (ok.st s hms).1, (ok.st s hms).2, (ok.gl s hms).1, (ok.gl s hms).2, ?_⟩
    refine ⟨_, keepA h2 hT, by rw [List.length_replicate]; omega, ?_, ?_, ?_⟩
    · rw [upd_ne hne.symm]; exact keepA h1 hT
    · rw [upd_same, List.replicate_succ']
    · intro b o hb hbo
      rw [upd_ne (ne_of_none hbo hDn)]; exact keepA (h3 b o hb hbo) hT
  · obtain ⟨h1, h2, h3⟩ := h
    refine ⟨h1, D, List.replicate kvs.length (V.bl true), rfl, ?_, List.replicate kvs.length true, ?_, ?_⟩
    · rw [upd_ne hne]; exact h2
    · have e5 : (List.replicate kvs.length true).map V.bl = List.replicate kvs.length (V.bl true) := by simp
      rw [e5]
      exact SqL.of (by rw [upd_ne hne]; exact h2)
    · refine ⟨by rw [upd_ne hne]; exact h2, ?_⟩
      have e6 : (List.replicate kvs.length true).all id = true := by simp
      rw [e6]
      refine q _ fun b o hbo => ?_
      rw [dropA_ne (ne_of_none hbo hDn)]
      by_cases hb : b = d
      · subst hb; rw [upd_same]; rw [e] at hbo; exact hbo
      · rw [upd_ne hb]; exact h3 b o hb hbo
end
end CW

namespace CW
open PySem PySem.Spec PyProof.Rows L2
/-! ## 32. Tables -/
/-- a table at t: its dict at r, its sizes at z -/
structure Tab (C : Addr) (H : Hp) (t r z : Addr) (w : Nat) (ks : List (List Nat)) (g : List Nat → List Nat) : Prop where
  w1 : 1 ≤ w
  w2 : w ≤ 100
  ok : RwOk w ks g
  few : ks.length ≤ 40
  at_ : ∃ dx, H t = some (.ins C dx [("own_width", .int w), ("own_rows", .ref r), ("own_sizes", .ref z)])
  rows : ∃ rs, KG H r rs g ∧ rs.Perm ks
  sizes : ∃ sz : List Int, H z = some (.lst (sz.map V.int)) ∧ sz.Pairwise (· ≥ ·) ∧ ∀ n : Int, n ∈ sz ↔ ∃ s ∈ ks, n = (s.length : Int)
/-- all but x stays -/
def But (x : Addr) (H H' : Hp) : Prop := ∀ b o, b ≠ x → H b = some o → H' b = some o
theorem perm_map_inv {α β : Type} {f : α → β} : ∀ {ks : List α} {ys : List β}, ys.Perm (ks.map f) → ∃ zs : List α, zs.Perm ks ∧ ys = zs.map f
  | [], ys, h => ⟨[], .nil, by simpa using h⟩
  | k :: ks, ys, h => by
    have hm : f k ∈ ys := h.mem_iff.mpr (by simp)
    obtain ⟨a, b, rfl⟩ := List.append_of_mem hm
    have h2 : (a ++ b).Perm (ks.map f) := by
      have := (List.perm_middle (a := f k) (l₁ := a) (l₂ := b)).symm.trans h
      exact List.Perm.cons_inv this
    obtain ⟨zs, h3, h4⟩ := perm_map_inv h2
    obtain ⟨z1, z2, rfl, rfl, rfl⟩ := List.append_eq_map_iff.mp h4
    exact ⟨z1 ++ k :: z2, List.perm_middle.trans (.cons k h3), by simp⟩
section
variable {K : PySem.W.Frag} {W : WX} {C : Addr}
theorem Tab.keep {H H' : Hp} {t r z w ks g} (h : Tab C H t r z w ks g) (k : ∀ b o, (b = t ∨ b = r ∨ b = z) → H b = some o → H' b = some o) : Tab C H' t r z w ks g := by
  obtain ⟨dx, a⟩ := h.at_
  obtain ⟨rs, b1, b2⟩ := h.rows
  obtain ⟨sz, c1, c2, c3⟩ := h.sizes
  exact ⟨h.w1, h.w2, h.ok, h.few, ⟨dx, k _ _ (.inl rfl) a⟩, ⟨rs, b1.congr fun _ e => k _ _ (.inr (.inl rfl)) e, b2⟩, ⟨sz, k _ _ (.inr (.inr rfl)) c1, c2, c3⟩⟩
theorem Tab.grow {H H' : Hp} {t r z w ks g} (h : Tab C H t r z w ks g) (k : Grow H H') : Tab C H' t r z w ks g := h.keep fun _ _ _ e => k _ _ e
def spInit (C : Addr) : Sp := fun vs H Q _ => ∃ (x d dx : Addr) (w : Nat) (ks : List (List Nat)) (g : List Nat → List Nat), vs = [.ref x, .int w, .ref d] ∧ 1 ≤ w ∧ w ≤ 100 ∧ H x = some (.ins C dx []) ∧ ks.length ≤ 40 ∧ KG H d ks g ∧ RwOk w ks g ∧
  ∀ H' r z, But x H H' → H r = none → H z = none → Tab C H' x r z w ks g → Q .non H'
def initB (C : Addr) (s1 s2 : Sp) : S := .cons (.ex (.call s1 (.cons (.v 1) (.nil)) (.nil) [.p 0])) (.cons (.set (.v 3) (.ite (.cmp .Is (.v 2) (.c .non)) (.dct (.nil) (.nil)) (.v 2))) (.cons (.ite (.not (.call s2 (.cons (.v 1) (.cons (.v 3) (.nil))) (.nil) [.p 0, .p 1])) (.cons (.bad) (.nil)) (.nil)) (.cons (.ite (.cmp .Gt (.bi .len (.cons (.v 3) (.nil))) (.own (.att [] [] [(C, (.int 40))] "MOST_ROWS") (.v 0) .nil .nil)) (.cons (.bad) (.nil)) (.nil)) (.cons (.fld "own_width" (.v 0) (.v 1)) (.cons (.fld "own_rows" (.v 0) (.dc (.v 5) (.sub (.v 3) (.v 5)) (.v 5) (.it (.bi .sorted (.cons (.v 3) (.nil)))) (.nil) [5])) (.cons (.set (.v 4) (.lkE (.dc (.bi .len (.cons (.v 5) (.nil))) (.c (.bl true)) (.v 5) (.kd (.v 3)) (.nil) [5]))) (.cons (.fld "own_sizes" (.v 0) (.own .srev (.v 4) .nil .nil)) (.nil))))))))
theorem rd_init (hC : Cls K C) (n1 : NoAttr K C "own_width") (n2 : NoAttr K C "own_rows") (n3 : NoAttr K C "own_sizes") (vs : List V) (H : Hp) (Q : VK) (R : XK) (h : spInit C vs H Q R) : vs.length = 3 ∧ wS K W (initB C spWantWidth (spAreRows K)) (Dn Q) (start ["a", "b", "c", "d", "e", "f"] vs) H := by
  obtain ⟨x, d, dx, w, ks, g, rfl, w1, w2, hx, hl, hd, ok, q⟩ := h
  have hz : (sizeLine : Nat) = 16777216 := sizeLine_eq
  have ndx : d ≠ x := fun c => by rw [c] at hd; rw [hd.eq] at hx; cases hx
  refine ⟨rfl, w, rfl, by omega, by omega, ?_⟩
  refine ⟨w, d, ks, g, rfl, w1, w2, by omega, hd, ok, fun H1 g1 => ?_⟩
  have hx1 := g1 _ _ hx
  have hd1 := hd.grow g1
  show wS K W (.cons (.ite (.cmp .Gt (.bi .len (.cons (.v 3) (.nil))) (.own (.att [] [] [(C, (.int 40))] "MOST_ROWS") (.v 0) .nil .nil)) (.cons (.bad) (.nil)) (.nil)) _) _ [some (.ref x), some (.int w), some (.ref d), some (.ref d), none, none] H1
  refine Or.inr (Or.inr ⟨_, hd1.eq, ?_⟩)
  refine ⟨x, C, dx, [], rfl, hx1, Or.inr (Or.inr ⟨.int 40, by simp, rfl, ?_⟩)⟩
  have e40 : decide ((40 : Int) < ((kvG ks fun s => tx (g s)).length : Nat)) = false := decide_eq_false (by rw [List.length_map]; omega)
  show if (decide ((40 : Int) < ((kvG ks fun s => tx (g s)).length : Nat))) = true then _ else _
  rw [e40, if_neg (by decide)]
  refine ⟨x, C, dx, [], rfl, hx1, hC, n1, by decide, ?_⟩
  generalize hH2 : upd H1 x (.ins C dx (putF "own_width" (.int w) [])) = H2
  have hx2 : H2 x = some (.ins C dx [("own_width", .int w)]) := by rw [← hH2]; exact upd_same
  have b2 : But x H H2 := fun b o hb e => by rw [← hH2, upd_ne hb]; exact g1 _ _ e
  have hd2 : KG H2 d ks g := hd.congr fun _ e => b2 _ _ ndx e
  have f2 : ∀ b, H2 b = none → H b = none := fun b hb => by
    cases e : H b with
    | none => rfl
    | some o =>
      by_cases c : b = x
      · rw [c, hx2] at hb; cases hb
      · rw [b2 b o c e] at hb; cases hb
  show wS K W (.cons (.fld "own_rows" (.v 0) (.dc (.v 5) (.sub (.v 3) (.v 5)) (.v 5) (.it (.bi .sorted (.cons (.v 3) (.nil)))) (.nil) [5])) _) _ [some (.ref x), some (.int w), some (.ref d), some (.ref d), none, none] H2
  refine Or.inr (Or.inr ⟨kvG ks fun s => tx (g s), ks.map T, .inl hd2.eq, by rw [List.map_map, List.map_map]; rfl, by rw [List.length_map]; omega, fun ys q0 hp _ hq0 => ?_⟩)
  obtain ⟨zs, hzp, rfl⟩ := perm_map_inv hp
  refine Or.inl ⟨⟨_, SqL.of upd_same⟩, fun r hr => ?_⟩
  have nd : zs.Nodup := hzp.nodup_iff.mpr hd.nd
  have nrq : r ≠ q0 := fun c => by rw [c, upd_same] at hr; cases hr
  have hr2 : H2 r = none := by rw [upd_ne nrq] at hr; exact hr
  have hml : (List.map V.str (zs.map T)) = zs.map tx := by rw [List.map_map]; rfl
  rw [hml] at hr ⊢
  have hlz : zs.length = ks.length := hzp.length_eq
  refine dc_it (walk_list (xs := zs.map tx)) (fun i H3 => But r (upd H2 q0 (.lst (zs.map tx))) H3 ∧ H3 r = some (.dK (kvG (zs.take i) fun s => tx (g s)))) ⟨fun b o hb e => by rw [upd_ne hb]; exact e, upd_same⟩ (fun i H3 _ h => SqL.of (h.1 _ _ nrq.symm upd_same)) (fun i y H3 H4 hi h yy => ?_) (fun H3 h => ?_)
  · obtain ⟨rfl, ey⟩ := yy
    obtain ⟨s, es, rfl⟩ := get_tx ey
    obtain ⟨h1, h2⟩ := h
    have hsz : s ∈ zs := List.mem_of_getElem? es
    have hsk : s ∈ ks := hzp.mem_iff.mp hsz
    have hd3 : KG H4 d ks g := hd2.congr fun _ e => h1 _ _ (fun c => by rw [c] at hd2; rw [hd2.eq] at hr2; cases hr2) (keepA e hq0)
    refine ⟨rfl, Or.inr (Or.inr ⟨tx (g s), hd3.get hsk, ?_⟩)⟩
    have hni : s ∉ zs.take i := fun c => by
      obtain ⟨j, hj, e⟩ := List.mem_iff_getElem.mp c
      rw [List.length_take] at hj
      have hj1 : j < i := by omega
      have e2 : zs[j]? = some s := by rw [← e, List.getElem_take]; exact List.getElem?_eq_getElem _
      have := (List.getElem?_inj (by omega) nd).mp (e2.trans es.symm)
      omega
    refine ⟨_, ky s, rfl, h2, by rw [List.length_map, List.length_take]; omega, fun b o hb e => ?_, ?_⟩
    · rw [upd_ne hb]; exact h1 b o hb e
    · rw [upd_same, putK_new _ (kvG_none hni), take_snoc es]; simp only [kvG, List.map_append]; rfl
  obtain ⟨h1, h2⟩ := h
  rw [show (zs.map tx).length = zs.length from List.length_map .., List.take_length] at h2
  have hxr : x ≠ r := fun c => by rw [← c, hx2] at hr2; cases hr2
  have hx3 : H3 x = some (.ins C dx [("own_width", .int w)]) := h1 _ _ hxr (keepA hx2 hq0)
  refine ⟨x, C, dx, _, rfl, hx3, hC, n2, by show 1 < 1000; decide, ?_⟩
  generalize hH4 : upd H3 x (.ins C dx (putF "own_rows" (.ref r) [("own_width", .int w)])) = H4
  have hx4 : H4 x = some (.ins C dx [("own_width", .int w), ("own_rows", .ref r)]) := by rw [← hH4]; exact upd_same
  have b4 : But x H H4 := fun b o hb e => by
    have nbr : b ≠ r := fun c => by rw [c, f2 r hr2] at e; cases e
    rw [← hH4, upd_ne hb]; exact h1 _ _ nbr (keepA (b2 _ _ hb e) hq0)
  have hr4 : KG H4 r zs g := KD.of nd (by rw [← hH4, upd_ne hxr.symm]; exact h2)
  have hd4 : KG H4 d ks g := hd.congr fun _ e => b4 _ _ ndx e
  have f4 : ∀ b, H4 b = none → H b = none := fun b hb => by
    cases e : H b with
    | none => rfl
    | some o =>
      by_cases c : b = x
      · rw [c, hx4] at hb; cases hb
      · rw [b4 b o c e] at hb; cases hb
  show wS K W (.cons (.set (.v 4) (.lkE (.dc (.bi .len (.cons (.v 5) (.nil))) (.c (.bl true)) (.v 5) (.kd (.v 3)) (.nil) [5]))) _) _ [some (.ref x), some (.int w), some (.ref d), some (.ref d), none, none] H4
  refine ⟨d, _, hd4.eq, trivial, fun od => ⟨d, od, rfl, Or.inl ⟨_, upd_same, fun D hD => ?_⟩⟩⟩
  have nDd : D ≠ d := fun c => by rw [c, upd_same] at hD; cases hD
  have hD4 : H4 D = none := by rw [upd_ne nDd] at hD; exact hD
  refine dc_it (walk_keys (kvs := kvG ks fun s => tx (g s))) (fun i H5 => H5 d = some (.frz od (.dK (kvG ks fun s => tx (g s)))) ∧ (∀ b o, b ≠ d → b ≠ D → H4 b = some o → H5 b = some o) ∧ ∃ (kvs : List (Key × V)) (ns : List Int), H5 D = some (.dK kvs) ∧ kvs.map (·.1) = ns.map Sum.inl ∧ ns.length ≤ i ∧ ∀ n, n ∈ ns ↔ ∃ s ∈ ks.take i, n = (s.length : Int))
    ⟨by rw [upd_ne nDd.symm]; exact upd_same, fun b o h1 h2 e => by rw [upd_ne h2, upd_ne h1]; exact e, [], [], upd_same, rfl, Nat.le_refl _, by simp⟩ (fun i H5 _ h => h.1) (fun i y H5 H6 hi h yy => ?_) (fun H5 h => ?_)
  · obtain ⟨rfl, k, v, ek, rfl⟩ := yy
    rw [List.length_map] at hi
    obtain ⟨s, es⟩ : ∃ s, ks[i]? = some s := ⟨ks[i], List.getElem?_eq_getElem hi⟩
    rw [kvG_get es] at ek
    cases ek
    obtain ⟨h1, h2, kvs, ns, h3, h4, h5, h6⟩ := h
    have hs := ok.st s (List.mem_of_getElem? es)
    refine ⟨rfl, ?_⟩
    refine ⟨by show (T s).length ≤ sizeLine; rw [T_len]; omega, ?_⟩
    refine ⟨kvs, .inl (s.length : Int), rfl, h3, by have := congrArg List.length h4; simp at this; omega, by rw [upd_ne nDd.symm]; exact h1, fun b o e1 e2 e => by rw [upd_ne e2]; exact h2 b o e1 e2 e, ?_⟩
    have mem : ∀ n : Int, (∃ s' ∈ ks.take (i + 1), n = (s'.length : Int)) ↔ (∃ s' ∈ ks.take i, n = (s'.length : Int)) ∨ n = (s.length : Int) := fun n => by
      rw [take_snoc es]
      constructor
      · rintro ⟨s', h, e⟩
        rcases List.mem_append.mp h with h | h
        · exact .inl ⟨s', h, e⟩
        · rw [List.mem_singleton.mp h] at e; exact .inr e
      · rintro (⟨s', h, e⟩ | e)
        · exact ⟨s', List.mem_append_left _ h, e⟩
        · exact ⟨s, by simp, e⟩
    by_cases hin : (s.length : Int) ∈ ns
    · refine ⟨_, ns, upd_same, by rw [putK_keys (by rw [h4]; exact List.mem_map_of_mem hin), h4], by omega, fun n => ?_⟩
      rw [mem, ← h6]
      exact ⟨.inl, fun h => h.elim id fun e => e ▸ hin⟩
    · have hv : valV kvs (.inl (s.length : Int)) = none := by
        cases e : valV kvs (.inl (s.length : Int)) with
        | none => rfl
        | some v =>
          have := valV_in e
          rw [h4] at this
          obtain ⟨u, e1, e2⟩ := List.mem_map.mp this
          injection e2 with e2
          exact absurd (e2 ▸ e1) hin
      refine ⟨_, ns ++ [(s.length : Int)], upd_same, by rw [putK_new _ hv, List.map_append, List.map_append, h4]; rfl, by simp; omega, fun n => ?_⟩
      rw [mem, ← h6]
      simp
  obtain ⟨h1, h2', kvs, ns, h3, h4, h5, h6⟩ := h
  refine ⟨h1, ?_⟩
  rw [show (kvG ks fun s => tx (g s)).length = ks.length from List.length_map .., List.take_length] at h6
  rw [show (kvG ks fun s => tx (g s)).length = ks.length from List.length_map ..] at h5
  generalize hH6 : upd H5 d (.dK (kvG ks fun s => tx (g s))) = H6
  have k6 : ∀ b o, b ≠ D → H4 b = some o → H6 b = some o := fun b o hb e => by
    by_cases c : b = d
    · rw [← hH6, c, upd_same, ← hd4.eq, ← c]; exact e
    · rw [← hH6, upd_ne c]; exact h2' b o c hb e
  have hD6 : H6 D = some (.dK kvs) := by rw [← hH6, upd_ne nDd]; exact h3
  show wS K W (.cons (.fld "own_sizes" (.v 0) (.own .srev (.v 4) .nil .nil)) (.nil)) _ [some (.ref x), some (.int w), some (.ref d), some (.ref d), some (.ref D), none] H6
  refine ⟨D, kvs, ns, rfl, .inl hD6, h4, by omega, fun ys z hp hs hz6 => ?_⟩
  have nxD : x ≠ D := fun c => by rw [← c, hx4] at hD4; cases hD4
  have hx6 := k6 _ _ nxD hx4
  refine ⟨x, C, dx, _, rfl, keepA hx6 hz6, hC, n3, by show 2 < 1000; decide, ?_⟩
  have nzx : z ≠ x := fun c => by rw [c, hx6] at hz6; cases hz6
  have nzD : z ≠ D := fun c => by rw [c, hD6] at hz6; cases hz6
  have hz4 : H4 z = none := by
    cases e : H4 z with
    | none => rfl
    | some o => rw [k6 z o nzD e] at hz6; cases hz6
  have nrD : r ≠ D := fun c => by rw [← c, hr4.eq] at hD4; cases hD4
  refine q _ r z (fun b o hb e => ?_) (f2 r hr2) (f4 z hz4) ⟨w1, w2, ok, hl, ⟨dx, upd_same⟩, ⟨zs, ?_, hzp⟩, ⟨ys, ?_, hs, fun n => ?_⟩⟩
  · have nbD : b ≠ D := fun c => by rw [c, f4 D hD4] at e; cases e
    rw [upd_ne hb]; exact keepA (k6 _ _ nbD (b4 _ _ hb e)) hz6
  · exact hr4.congr fun _ e => by rw [upd_ne hxr.symm]; exact keepA (k6 _ _ nrD e) hz6
  · rw [upd_ne nzx, upd_same]
  · rw [hp.mem_iff]; exact h6 n
end
end CW

namespace CW
open PySem PySem.Spec PyProof.Rows L2
/-! ## 33. What a table tells -/
/-- the longest of ks that holds a -/
def rowO (ks : List (List Nat)) (a : List Nat) : Option (List Nat) := ((List.range (a.length + 1)).reverse.find? fun n => decide (a.take n ∈ ks)).map fun n => a.take n
abbrev vO : Option (List Nat) → V
  | none => .non
  | some s => tx s
theorem rowO_none {ks : List (List Nat)} {a : List Nat} (h : ∀ x ∈ ks, ¬ x <+: a) : rowO ks a = none := by
  unfold rowO
  rw [List.find?_eq_none.mpr]
  · rfl
  · intro n _ c
    rw [decide_eq_true_eq] at c
    exact h _ c (List.take_prefix _ _)
theorem rowO_some {ks : List (List Nat)} {a s : List Nat} (hs : s ∈ ks) (hp : s <+: a) (hm : ∀ x ∈ ks, x <+: a → x.length ≤ s.length) : rowO ks a = some s := by
  unfold rowO
  have e : s = a.take s.length := List.prefix_iff_eq_take.mp hp
  have hl := hp.length_le
  cases f : (List.range (a.length + 1)).reverse.find? (fun n => decide (a.take n ∈ ks)) with
  | none =>
    have := List.find?_eq_none.mp f s.length (by simp; omega)
    rw [← e] at this
    simp [hs] at this
  | some n =>
    have h1 := List.find?_some f
    rw [decide_eq_true_eq] at h1
    have h2 : n ≤ a.length := by have := List.mem_of_find?_eq_some f; simp at this; omega
    have h3 := hm _ h1 (List.take_prefix _ _)
    rw [List.length_take] at h3
    have h4 : s.length ≤ n := by
      rcases Nat.lt_or_ge n s.length with c | c
      · exfalso
        obtain ⟨_, as, bs, h5, h6⟩ := List.find?_eq_some_iff_append.mp f
        have hmem : s.length ∈ (List.range (a.length + 1)).reverse := by simp; omega
        have pw : (List.range (a.length + 1)).reverse.Pairwise (· > ·) := List.pairwise_reverse.mpr List.pairwise_lt_range
        rw [h5] at hmem pw
        have := List.pairwise_append.mp pw
        rcases List.mem_append.mp hmem with z | z
        · have := h6 _ z
          rw [← e] at this
          simp [hs] at this
        · rcases List.mem_cons.mp z with z | z
          · omega
          · have := (List.pairwise_cons.mp this.2.1).1 _ z
            omega
      · exact c
    have h5 : n = s.length := by omega
    rw [h5]
    show some (a.take s.length) = some s
    rw [← e]
theorem rowO_cases (ks : List (List Nat)) (a : List Nat) : (rowO ks a = none ∧ ∀ x ∈ ks, ¬ x <+: a) ∨ ∃ s, rowO ks a = some s ∧ s ∈ ks ∧ s <+: a ∧ ∀ x ∈ ks, x <+: a → x.length ≤ s.length := by
  by_cases h : ∃ x ∈ ks, x <+: a
  · right
    have : ∀ (l : List (List Nat)), (∃ x ∈ l, x <+: a) → ∃ s ∈ l, s <+: a ∧ ∀ x ∈ l, x <+: a → x.length ≤ s.length := by
      intro l
      induction l with
      | nil => rintro ⟨x, hx, _⟩; cases hx
      | cons y l ih =>
        intro hx
        by_cases hl : ∃ x ∈ l, x <+: a
        · obtain ⟨s, s1, s2, s3⟩ := ih hl
          by_cases hy : y <+: a ∧ s.length < y.length
          · refine ⟨y, List.mem_cons_self, hy.1, fun x hx hxa => ?_⟩
            rcases List.mem_cons.mp hx with z | z
            · rw [z]; exact Nat.le_refl _
            · have := s3 x z hxa; omega
          · refine ⟨s, List.mem_cons_of_mem _ s1, s2, fun x hx hxa => ?_⟩
            rcases List.mem_cons.mp hx with z | z
            · rw [z] at hxa ⊢; exact Nat.le_of_not_lt fun c => hy ⟨hxa, c⟩
            · exact s3 x z hxa
        · obtain ⟨x, h1, h2⟩ := hx
          rcases List.mem_cons.mp h1 with z | z
          · subst z
            exact ⟨x, List.mem_cons_self, h2, fun x' hx' hxa => (List.mem_cons.mp hx').elim (fun z => by rw [z]; exact Nat.le_refl _) fun z => absurd ⟨x', z, hxa⟩ hl⟩
          · exact absurd ⟨x, z, h2⟩ hl
    obtain ⟨s, h1, h2, h3⟩ := this ks h
    exact ⟨s, rowO_some h1 h2 h3, h1, h2, h3⟩
  · have h' : ∀ x ∈ ks, ¬ x <+: a := fun x hx c => h ⟨x, hx, c⟩
    exact .inl ⟨rowO_none h', h'⟩
theorem rowO_congr {ks ls : List (List Nat)} {a : List Nat} (h : ∀ x, x <+: a → (x ∈ ks ↔ x ∈ ls)) : rowO ks a = rowO ls a := by
  unfold rowO
  have : (fun n => decide (a.take n ∈ ks)) = fun n => decide (a.take n ∈ ls) := by
    funext n
    rw [Bool.eq_iff_iff, decide_eq_true_eq, decide_eq_true_eq]
    exact h _ (List.take_prefix _ _)
  rw [this]
section
variable {K : PySem.W.Frag} {W : WX} {C : Addr}
def spRowOf (C : Addr) : Sp := fun vs H Q _ => ∃ (t r z : Addr) (w : Nat) (ks : List (List Nat)) (g : List Nat → List Nat) (a : List Nat), vs = [.ref t, tx a] ∧ Tab C H t r z w ks g ∧ a.length ≤ 100 ∧ Q (vO (rowO ks a)) H
def rowOfB (C : Addr) : S := .cons (.for_ (.v 2) (.it (.own (.att [C] [] [] "own_sizes") (.v 0) .nil .nil)) (.cons (.ite (.cmp .In (.slc (.v 1) (.nil) (.cons (.v 2) .nil)) (.own (.att [C] [] [] "own_rows") (.v 0) .nil .nil)) (.cons (.ret (.slc (.v 1) (.nil) (.cons (.v 2) .nil))) (.nil)) (.nil)) (.nil))) (.cons (.ret (.c .non)) (.nil))
theorem lk1 {a b c : V} : List.lookup ("own_width" : Str) [("own_width", a), ("own_rows", b), ("own_sizes", c)] = some a := rfl
theorem lk2 {a b c : V} : List.lookup ("own_rows" : Str) [("own_width", a), ("own_rows", b), ("own_sizes", c)] = some b := rfl
theorem lk3 {a b c : V} : List.lookup ("own_sizes" : Str) [("own_width", a), ("own_rows", b), ("own_sizes", c)] = some c := rfl
theorem rd_rowOf (vs : List V) (H : Hp) (Q : VK) (R : XK) (h : spRowOf C vs H Q R) : vs.length = 2 ∧ wS K W (rowOfB C) (Dn Q) (start ["a", "b", "c"] vs) H := by
  obtain ⟨t, r, z, w, ks, g, a, rfl, tb, hl, q⟩ := h
  have hz : (sizeLine : Nat) = 16777216 := sizeLine_eq
  obtain ⟨dx, ht⟩ := tb.at_
  obtain ⟨rs, hr, hp⟩ := tb.rows
  obtain ⟨sz, hs, hs2, hs3⟩ := tb.sizes
  refine ⟨rfl, t, C, dx, _, rfl, ht, Or.inl ⟨by simp, _, lk3, ?_⟩⟩
  refine it_sql (SqL.of hs) (fun k σ H2 => H2 = H ∧ (∃ y, σ = [some (.ref t), some (tx a), y]) ∧ ∀ n ∈ sz.take k, a.take n.toNat ∉ ks) ⟨rfl, ⟨none, rfl⟩, by simp⟩ (fun k σ H2 _ h => by rw [h.1]; exact SqL.of hs) (fun k x σ H2 hk h => ?_) (fun σ H2 h => ?_)
  · obtain ⟨rfl, ⟨y, rfl⟩, hn⟩ := h
    rw [List.getElem?_map] at hk
    obtain ⟨n, en, rfl⟩ := Option.map_eq_some_iff.mp hk
    obtain ⟨s0, hs0, rfl⟩ := (hs3 n).mp (List.mem_of_getElem? en)
    show wS K W (.cons (.ite (.cmp .In (.slc (.v 1) (.nil) (.cons (.v 2) .nil)) (.own (.att [C] [] [] "own_rows") (.v 0) .nil .nil)) (.cons (.ret (.slc (.v 1) (.nil) (.cons (.v 2) .nil))) (.nil)) (.nil)) (.nil)) _ [some (.ref t), some (tx a), some (.int (s0.length : Nat))] H2
    refine ⟨by rw [T_len]; omega, ?_⟩
    rw [cut_to]
    refine ⟨t, C, dx, _, rfl, ht, Or.inl ⟨by simp, _, lk2, ?_⟩⟩
    obtain ⟨o, ho1, ho2⟩ := hr.has (a.take s0.length)
    refine Or.inr (Or.inr ⟨o, ho1, ?_⟩)
    rw [ho2]
    show if (decide (a.take s0.length ∈ rs)) = true then _ else _
    by_cases hm : a.take s0.length ∈ ks
    · rw [decide_eq_true (hp.mem_iff.mpr hm), if_pos rfl]
      refine ⟨by rw [T_len]; omega, ?_⟩
      rw [cut_to]
      rw [rowO_some hm (List.take_prefix _ _) fun x hx hxa => ?_] at q
      · exact q
      · have h1 := hxa.length_le
        have h2 : x.length ≤ s0.length := by
          have hxs : (x.length : Int) ∈ sz := (hs3 _).mpr ⟨x, hx, rfl⟩
          have hsplit : sz = sz.take k ++ sz.drop k := (List.take_append_drop k sz).symm
          rw [hsplit] at hxs
          rcases List.mem_append.mp hxs with z1 | z1
          · have := hn _ z1
            rw [Int.toNat_natCast, ← List.prefix_iff_eq_take.mp hxa] at this
            exact absurd hx this
          · have hk2 : k < sz.length := (List.getElem?_eq_some_iff.mp en).1
            rw [List.drop_eq_getElem_cons hk2] at z1
            have e3 : sz[k] = (s0.length : Int) := (List.getElem?_eq_some_iff.mp en).2
            rcases List.mem_cons.mp z1 with z2 | z2
            · omega
            · have pw := hs2
              rw [hsplit, List.drop_eq_getElem_cons hk2] at pw
              have := (List.pairwise_cons.mp (List.pairwise_append.mp pw).2.1).1 _ z2
              omega
        rw [List.length_take]; omega
    · rw [decide_eq_false (fun c => hm (hp.mem_iff.mp c)), if_neg (by decide)]
      refine ⟨rfl, ⟨_, rfl⟩, fun n hn' => ?_⟩
      rw [take_snoc en] at hn'
      rcases List.mem_append.mp hn' with z1 | z1
      · exact hn n z1
      · rw [List.mem_singleton.mp z1, Int.toNat_natCast]; exact hm
  · obtain ⟨rfl, ⟨y, rfl⟩, hn⟩ := h
    rw [List.length_map, List.take_length] at hn
    rw [rowO_none fun x hx hxa => hn _ ((hs3 _).mpr ⟨x, hx, rfl⟩) (by rw [Int.toNat_natCast, ← List.prefix_iff_eq_take.mp hxa]; exact hx)] at q
    exact q
/-- the goal -/
def goalO (ks : List (List Nat)) (g : List Nat → List Nat) (a : List Nat) : List Nat := match rowO ks a with
  | none => [104, 111, 108, 101]
  | some s => g s
def spGoalOf (C : Addr) : Sp := fun vs H Q _ => ∃ (t r z : Addr) (w : Nat) (ks : List (List Nat)) (g : List Nat → List Nat) (a : List Nat), vs = [.ref t, tx a] ∧ Tab C H t r z w ks g ∧ a.length ≤ 100 ∧ Q (tx (goalO ks g a)) H
def goalOfB (C : Addr) (s1 : Sp) : S := .cons (.set (.v 2) (.own (.meth [(C, s1, [.p 0, .p 1])] "row_of") (.v 0) (.cons (.v 1) (.nil)) (.nil))) (.cons (.ret (.ite (.cmp .Is (.v 2) (.c .non)) (.c (.str "hole")) (.sub (.own (.att [C] [] [] "own_rows") (.v 0) .nil .nil) (.v 2)))) (.nil))
theorem holeT : ("hole" : Str) = T [104, 111, 108, 101] := by decide +kernel
theorem rd_goalOf (vs : List V) (H : Hp) (Q : VK) (R : XK) (h : spGoalOf C vs H Q R) : vs.length = 2 ∧ wS K W (goalOfB C (spRowOf C)) (Dn Q) (start ["a", "b", "c"] vs) H := by
  obtain ⟨t, r, z, w, ks, g, a, rfl, tb, hl, q⟩ := h
  obtain ⟨dx, ht⟩ := tb.at_
  obtain ⟨rs, hr, hp⟩ := tb.rows
  refine ⟨rfl, t, C, dx, _, _, _, rfl, ht, rfl, List.mem_singleton.mpr rfl, t, r, z, w, ks, g, a, rfl, tb, hl, ?_⟩
  show wS K W (.cons (.ret (.ite (.cmp .Is (.v 2) (.c .non)) (.c (.str "hole")) (.sub (.own (.att [C] [] [] "own_rows") (.v 0) .nil .nil) (.v 2)))) (.nil)) (Dn Q) [some (.ref t), some (tx a), some (vO (rowO ks a))] H
  unfold goalO at q
  rcases rowO_cases ks a with ⟨e, _⟩ | ⟨s, e, h1, _⟩
  · rw [e] at q ⊢
    show Q (.str "hole") H
    rw [holeT]; exact q
  · rw [e] at q ⊢
    refine ⟨t, C, dx, _, rfl, ht, Or.inl ⟨by simp, _, lk2, ?_⟩⟩
    exact Or.inr (Or.inr ⟨_, hr.get (hp.mem_iff.mpr h1), q⟩)
def spRow (C : Addr) : Sp := fun vs H Q _ => ∃ (t r z : Addr) (w : Nat) (ks : List (List Nat)) (g : List Nat → List Nat) (a : List Nat), vs = [.ref t, tx a] ∧ Tab C H t r z w ks g ∧ Bt a ∧ a.length = w ∧ Q (vO (rowO ks a)) H
def spCall (C : Addr) : Sp := fun vs H Q _ => ∃ (t r z : Addr) (w : Nat) (ks : List (List Nat)) (g : List Nat → List Nat) (a : List Nat), vs = [.ref t, tx a] ∧ Tab C H t r z w ks g ∧ Bt a ∧ a.length = w ∧ Q (tx (goalO ks g a)) H
def rowB (C : Addr) (s1 s2 : Sp) : S := .cons (.ex (.call s1 (.cons (.own (.att [C] [] [] "own_width") (.v 0) .nil .nil) (.cons (.v 1) (.nil))) (.nil) [.p 0, .p 1])) (.cons (.ret (.own (.meth [(C, s2, [.p 0, .p 1])] "row_of") (.v 0) (.cons (.v 1) (.nil)) (.nil))) (.nil))
def callB (C : Addr) (s1 s2 : Sp) : S := .cons (.ex (.call s1 (.cons (.own (.att [C] [] [] "own_width") (.v 0) .nil .nil) (.cons (.v 1) (.nil))) (.nil) [.p 0, .p 1])) (.cons (.ret (.own (.meth [(C, s2, [.p 0, .p 1])] "goal_of") (.v 0) (.cons (.v 1) (.nil)) (.nil))) (.nil))
theorem rd_row (vs : List V) (H : Hp) (Q : VK) (R : XK) (h : spRow C vs H Q R) : vs.length = 2 ∧ wS K W (rowB C spWantAddress (spRowOf C)) (Dn Q) (start ["a", "b"] vs) H := by
  obtain ⟨t, r, z, w, ks, g, a, rfl, tb, ba, hl, q⟩ := h
  obtain ⟨dx, ht⟩ := tb.at_
  have w1 := tb.w1
  have w2 := tb.w2
  refine ⟨rfl, t, C, dx, _, rfl, ht, Or.inl ⟨by simp, _, lk1, ?_⟩⟩
  refine ⟨w, a, rfl, by omega, by omega, ba, by omega, ?_⟩
  exact ⟨t, C, dx, _, _, _, rfl, ht, rfl, List.mem_singleton.mpr rfl, t, r, z, w, ks, g, a, rfl, tb, by omega, q⟩
theorem rd_call (vs : List V) (H : Hp) (Q : VK) (R : XK) (h : spCall C vs H Q R) : vs.length = 2 ∧ wS K W (callB C spWantAddress (spGoalOf C)) (Dn Q) (start ["a", "b"] vs) H := by
  obtain ⟨t, r, z, w, ks, g, a, rfl, tb, ba, hl, q⟩ := h
  obtain ⟨dx, ht⟩ := tb.at_
  have w1 := tb.w1
  have w2 := tb.w2
  refine ⟨rfl, t, C, dx, _, rfl, ht, Or.inl ⟨by simp, _, lk1, ?_⟩⟩
  refine ⟨w, a, rfl, by omega, by omega, ba, by omega, ?_⟩
  exact ⟨t, C, dx, _, _, _, rfl, ht, rfl, List.mem_singleton.mpr rfl, t, r, z, w, ks, g, a, rfl, tb, by omega, q⟩
end
end CW

namespace CW
open PySem PySem.Spec PyProof.Rows L2
/-! ## 34. Tables of tables -/
section
variable {K : PySem.W.Frag} {W : WX} {C : Addr}
theorem IsS.perm {xs ys ss : List (List Nat)} (h : IsS xs ss) (e : ∀ x, x ∈ xs ↔ x ∈ ys) : IsS ys ss := ⟨fun x => by rw [h.mem, e], h.ord⟩
theorem Tab.perm {H : Hp} {t r z : Addr} {w : Nat} {ks ls : List (List Nat)} {g : List Nat → List Nat} (h : Tab C H t r z w ks g) (p : ks.Perm ls) : Tab C H t r z w ls g := by
  obtain ⟨rs, b1, b2⟩ := h.rows
  obtain ⟨sz, c1, c2, c3⟩ := h.sizes
  exact ⟨h.w1, h.w2, ⟨fun s hs => h.ok.st s (p.mem_iff.mpr hs), fun s hs => h.ok.gl s (p.mem_iff.mpr hs)⟩, by rw [← p.length_eq]; exact h.few, h.at_, ⟨rs, b1, b2.trans p⟩, ⟨sz, c1, c2, fun n => by rw [c3]; exact ⟨fun ⟨s, a, b⟩ => ⟨s, p.mem_iff.mp a, b⟩, fun ⟨s, a, b⟩ => ⟨s, p.mem_iff.mpr a, b⟩⟩⟩⟩
def spCellsT (K : PySem.W.Frag) (C : Addr) : Sp := fun vs H Q _ => ∃ (t r z : Addr) (w : Nat) (ks : List (List Nat)) (g : List Nat → List Nat), vs = [.ref t] ∧ Tab C H t r z w ks g ∧ ∀ ss l H', IsS ks ss → New K H l H' (rowsD w ss) → Q (.ref l) H'
def cellsTB (C : Addr) (s1 : Sp) : S := .cons (.ret (.call s1 (.cons (.own (.att [C] [] [] "own_width") (.v 0) .nil .nil) (.cons (.own .listD (.own (.att [C] [] [] "own_rows") (.v 0) .nil .nil) .nil .nil) (.nil))) (.nil) [.p 0, .p 1])) (.nil)
theorem rd_cellsT (vs : List V) (H : Hp) (Q : VK) (R : XK) (h : spCellsT K C vs H Q R) : vs.length = 1 ∧ wS K W (cellsTB C (spCellRows K)) (Dn Q) (start ["a"] vs) H := by
  obtain ⟨t, r, z, w, ks, g, rfl, tb, q⟩ := h
  obtain ⟨dx, ht⟩ := tb.at_
  obtain ⟨rs, hr, hp⟩ := tb.rows
  have hf := tb.few
  refine ⟨rfl, t, C, dx, _, rfl, ht, Or.inl ⟨by simp, _, lk1, ?_⟩⟩
  refine ⟨t, C, dx, _, rfl, ht, Or.inl ⟨by simp, _, lk2, ?_⟩⟩
  refine ⟨r, _, rfl, .inl hr.eq, fun p hpn => ?_⟩
  have e : (kvG rs fun s => tx (g s)).map (fun kv => kV kv.1) = rs.map tx := by rw [List.map_map]; rfl
  rw [e]
  refine ⟨w, p, rs, rfl, tb.w1, tb.w2, by rw [hp.length_eq]; omega, .inl (SqL.of upd_same), fun s hs => tb.ok.st s (hp.mem_iff.mp hs), fun ss l H' is nw => ?_⟩
  exact q ss l H' (is.perm fun x => hp.mem_iff) (nw.back (Grow.refl.new hpn))
def spContains (C : Addr) : Sp := fun vs H Q _ => ∃ (t r z : Addr) (w : Nat) (ks : List (List Nat)) (g : List Nat → List Nat) (s : List Nat), vs = [.ref t, tx s] ∧ Tab C H t r z w ks g ∧ Q (.bl (decide (s ∈ ks))) H
def containsB (C : Addr) : S := .cons (.ret (.and (.isA (.v 1) [.str]) (.cmp .In (.v 1) (.own (.att [C] [] [] "own_rows") (.v 0) .nil .nil)))) (.nil)
theorem rd_contains (vs : List V) (H : Hp) (Q : VK) (R : XK) (h : spContains C vs H Q R) : vs.length = 2 ∧ wS K W (containsB C) (Dn Q) (start ["a", "b"] vs) H := by
  obtain ⟨t, r, z, w, ks, g, s, rfl, tb, q⟩ := h
  obtain ⟨dx, ht⟩ := tb.at_
  obtain ⟨rs, hr, hp⟩ := tb.rows
  refine ⟨rfl, ?_⟩
  refine ⟨t, C, dx, _, rfl, ht, Or.inl ⟨by simp, _, lk2, ?_⟩⟩
  obtain ⟨o, h1, h2⟩ := hr.has s
  refine Or.inr (Or.inr ⟨o, h1, ?_⟩)
  have e : decide (s ∈ rs) = decide (s ∈ ks) := by rw [Bool.eq_iff_iff, decide_eq_true_eq, decide_eq_true_eq]; exact hp.mem_iff
  rw [h2, e]
  exact q
/-- a table less a row -/
def spSub (C : Addr) : Sp := fun vs H Q _ => ∃ (t r z : Addr) (w : Nat) (ks : List (List Nat)) (g : List Nat → List Nat) (s : List Nat), vs = [.ref t, tx s] ∧ Tab C H t r z w ks g ∧ s ∈ ks ∧
  ∀ H' t' r' z', Grow H H' → H t' = none → H r' = none → H z' = none → Tab C H' t' r' z' w (ks.filter fun x => decide (x ≠ s)) g → Q (.ref t') H'
def subB (C : Addr) (s1 s2 : Sp) : S := .cons (.ite (.cmpO .NotIn [(C, s1, [.p 0, .p 1])] (.v 1) (.v 0)) (.cons (.bad) (.nil)) (.nil)) (.cons (.ret (.own (.make C s2 [.p 0, .p 1, .p 2]) .nil (.cons (.own (.att [C] [] [] "own_width") (.v 0) .nil .nil) (.cons (.lkE (.dc (.v 2) (.v 3) (.tup (.cons (.v 2) (.cons (.v 3) (.nil)))) (.items (.own (.att [C] [] [] "own_rows") (.v 0) .nil .nil)) (.cons (.cmp .NotEq (.v 2) (.v 1)) .nil) [2, 3])) (.nil))) (.nil))) (.nil))
theorem make_tab {H H2 : Hp} {D : Addr} {w : Nat} {ks : List (List Nat)} {g : List Nat → List Nat} {Q : VK} {R : XK} (b2 : Grow H H2) (w1 : 1 ≤ w) (w2 : w ≤ 100) (hl : ks.length ≤ 40) (hD : KG H2 D ks g) (ok : RwOk w ks g)
    (q : ∀ H' t' r' z', Grow H H' → H t' = none → H r' = none → H z' = none → Tab C H' t' r' z' w ks g → Q (.ref t') H') : ∀ x dx, H2 x = none → H2 dx = none → dx ≠ x → spInit C (arr [.p 0, .p 1, .p 2] [.ref x, .int w, .ref D] []) (upd (upd H2 dx (.own x)) x (.ins C dx [])) (fun v H3 => v = .non ∧ Q (.ref x) H3) R := by
  intro x dx hx hdx hne
  have f2 : ∀ b, H2 b = none → H b = none := fun b hb => by
    cases e : H b with
    | none => rfl
    | some o => rw [b2 b o e] at hb; cases hb
  have nDx : D ≠ x := fun c => by rw [← c, hD.eq] at hx; cases hx
  have nDd : D ≠ dx := fun c => by rw [← c, hD.eq] at hdx; cases hdx
  refine ⟨x, D, dx, w, ks, g, rfl, w1, w2, upd_same, hl, hD.congr fun _ e => by rw [upd_ne nDx, upd_ne nDd]; exact e, ok, fun H' r z bt hr hz tb => ⟨rfl, q H' x r z (fun b o e => ?_) (f2 x hx) ?_ ?_ tb⟩⟩
  · have nbx : b ≠ x := fun c => by rw [c, f2 x hx] at e; cases e
    have nbd : b ≠ dx := fun c => by rw [c, f2 dx hdx] at e; cases e
    exact bt b o nbx (by rw [upd_ne nbx, upd_ne nbd]; exact b2 b o e)
  · have n1 : r ≠ x := fun c => by rw [c, upd_same] at hr; cases hr
    have n2 : r ≠ dx := fun c => by rw [c, upd_ne hne, upd_same] at hr; cases hr
    rw [upd_ne n1, upd_ne n2] at hr; exact f2 r hr
  · have n1 : z ≠ x := fun c => by rw [c, upd_same] at hz; cases hz
    have n2 : z ≠ dx := fun c => by rw [c, upd_ne hne, upd_same] at hz; cases hz
    rw [upd_ne n1, upd_ne n2] at hz; exact f2 z hz
theorem dec_tx (a b : List Nat) : decide (tx a = tx b) = decide (a = b) := by
  rw [Bool.eq_iff_iff, decide_eq_true_eq, decide_eq_true_eq]
  exact ⟨fun h => T_inj (by injection h), fun h => by rw [h]⟩
theorem rd_sub (vs : List V) (H : Hp) (Q : VK) (R : XK) (h : spSub C vs H Q R) : vs.length = 2 ∧ wS K W (subB C (spContains C) (spInit C)) (Dn Q) (start ["a", "b", "c", "d"] vs) H := by
  obtain ⟨t, r, z, w, ks, g, s, rfl, tb, hs, q⟩ := h
  have hz : (sizeLine : Nat) = 16777216 := sizeLine_eq
  obtain ⟨dx, ht⟩ := tb.at_
  obtain ⟨rs, hr, hp⟩ := tb.rows
  have hlr : rs.length ≤ 40 := by rw [hp.length_eq]; exact tb.few
  refine ⟨rfl, t, C, dx, _, _, _, rfl, ht, List.mem_singleton.mpr rfl, t, r, z, w, ks, g, s, rfl, tb, _, rfl, ?_⟩
  rw [decide_eq_true hs]
  show wS K W (.cons (.ret (.own (.make C (spInit C) [.p 0, .p 1, .p 2]) .nil (.cons (.own (.att [C] [] [] "own_width") (.v 0) .nil .nil) (.cons (.lkE (.dc (.v 2) (.v 3) (.tup (.cons (.v 2) (.cons (.v 3) (.nil)))) (.items (.own (.att [C] [] [] "own_rows") (.v 0) .nil .nil)) (.cons (.cmp .NotEq (.v 2) (.v 1)) .nil) [2, 3])) (.nil))) (.nil))) (.nil)) (Dn Q) [some (.ref t), some (tx s), none, none] H
  refine ⟨t, C, dx, _, rfl, ht, Or.inl ⟨by simp, _, lk1, ?_⟩⟩
  refine ⟨r, _, hr.eq, trivial, fun od => ?_⟩
  have ntr : t ≠ r := fun c => by rw [c, hr.eq] at ht; cases ht
  refine ⟨t, C, dx, _, rfl, by rw [upd_ne ntr]; exact ht, Or.inl ⟨by simp, _, lk2, ?_⟩⟩
  refine ⟨r, od, _, rfl, upd_same, fun D hD => ?_⟩
  have nDr : D ≠ r := fun c => by rw [c, upd_same] at hD; cases hD
  have hDn : H D = none := by rw [upd_ne nDr] at hD; exact hD
  refine dc_it (walk_items (kvs := kvG rs fun s => tx (g s))) (fun i H3 => H3 r = some (.frz od (.dK (kvG rs fun s => tx (g s)))) ∧ (∀ b o, b ≠ r → b ≠ D → H b = some o → H3 b = some o) ∧ H3 D = some (.dK (kvG ((rs.take i).filter fun x => decide (x ≠ s)) fun s => tx (g s))))
    ⟨by rw [upd_ne nDr.symm, upd_same], fun b o h1 h2 e => by rw [upd_ne h2, upd_ne h1]; exact e, upd_same⟩ (fun i H3 _ h => h.1) (fun i x H3 H4 hi h yy => ?_) (fun H3 h => ?_)
  · obtain ⟨T0, x1, y1, rfl, hT, rfl, e1, e2⟩ := yy
    obtain ⟨h1, h2, h3⟩ := h
    rw [List.length_map] at hi
    obtain ⟨u, es⟩ : ∃ u, rs[i]? = some u := ⟨rs[i], List.getElem?_eq_getElem hi⟩
    dsimp only at e1 e2
    rw [kvG_get es] at e1 e2
    obtain rfl := Option.some.inj e1
    obtain rfl := Option.some.inj e2
    have k1 := keepA (o' := .tup [kV (ky u), tx (g u)]) h1 hT
    have k3 := keepA (o' := .tup [kV (ky u), tx (g u)]) h3 hT
    have k2 : ∀ b o, b ≠ r → b ≠ D → H b = some o → upd H3 T0 (.tup [kV (ky u), tx (g u)]) b = some o := fun b o n1 n2 e => keepA (h2 b o n1 n2 e) hT
    refine ⟨T0, _, rfl, .inl (.inl upd_same), rfl, _, _, rfl, _, _, rfl, rfl, rfl, ?_⟩
    refine ⟨rfl, ?_⟩
    show if (!decide (tx u = tx s)) = true then _ else _
    rw [dec_tx]
    by_cases hus : u = s
    · rw [decide_eq_true hus, if_neg (by decide)]
      refine ⟨k1, k2, ?_⟩
      rw [k3, take_snoc es, List.filter_append]
      simp [hus]
    · rw [decide_eq_false hus, if_pos (by decide)]
      refine ⟨_, ky u, rfl, k3, by have := List.length_filter_le (fun x => decide (x ≠ s)) (rs.take i); rw [List.length_map]; rw [List.length_take] at this; omega, by rw [upd_ne nDr.symm]; exact k1, fun b o n1 n2 e => by rw [upd_ne n2]; exact k2 b o n1 n2 e, ?_⟩
      have hni : u ∉ (rs.take i).filter fun x => decide (x ≠ s) := fun c => by
        obtain ⟨j, hj, e⟩ := List.mem_iff_getElem.mp (List.mem_filter.mp c).1
        rw [List.length_take] at hj
        have e2 : rs[j]? = some u := by rw [← e, List.getElem_take]; exact List.getElem?_eq_getElem _
        have := (List.getElem?_inj (by omega) hr.nd).mp (e2.trans es.symm)
        omega
      rw [upd_same, putK_new _ (kvG_none hni), take_snoc es, List.filter_append]
      have e5 : [u].filter (fun x => decide (x ≠ s)) = [u] := by simp [hus]
      rw [e5]
      simp only [kvG, List.map_append]; rfl
  obtain ⟨h1, h2, h3⟩ := h
  rw [show (kvG rs fun s => tx (g s)).length = rs.length from List.length_map .., List.take_length] at h3
  refine ⟨h1, ?_⟩
  have b2 : Grow H (upd H3 r (.dK (kvG rs fun s => tx (g s)))) := fun b o e => by
    by_cases c : b = r
    · rw [c, upd_same, ← hr.eq, ← c]; exact e
    · rw [upd_ne c]; exact h2 b o c (fun c2 => by rw [c2, hDn] at e; cases e) e
  have pf : (rs.filter fun x => decide (x ≠ s)).Perm (ks.filter fun x => decide (x ≠ s)) := hp.filter _
  refine make_tab (ks := rs.filter fun x => decide (x ≠ s)) b2 tb.w1 tb.w2 (Nat.le_trans (List.length_filter_le _ _) hlr) (KD.of (hr.nd.filter _) (by rw [upd_ne nDr]; exact h3)) ⟨fun x hx => tb.ok.st x (hp.mem_iff.mp (List.mem_filter.mp hx).1), fun x hx => tb.ok.gl x (hp.mem_iff.mp (List.mem_filter.mp hx).1)⟩ fun H' t' r' z' a1 a2 a3 a4 a5 => q H' t' r' z' a1 a2 a3 a4 (a5.perm pf)
/-- a table and a row -/
def setG (g : List Nat → List Nat) (s x : List Nat) (q : List Nat) : List Nat := if q = s then x else g q
def addK (ks : List (List Nat)) (s : List Nat) : List (List Nat) := if s ∈ ks then ks else ks ++ [s]
theorem mem_addK {ks : List (List Nat)} {s x : List Nat} : x ∈ addK ks s ↔ x ∈ ks ∨ x = s := by
  unfold addK
  split
  · rename_i h; exact ⟨.inl, fun z => z.elim id fun e => e ▸ h⟩
  · simp
theorem addK_perm {ks ls : List (List Nat)} {s : List Nat} (p : ks.Perm ls) : (addK ks s).Perm (addK ls s) := by
  unfold addK
  by_cases h : s ∈ ks
  · rw [if_pos h, if_pos (p.mem_iff.mp h)]; exact p
  · rw [if_neg h, if_neg (fun c => h (p.mem_iff.mpr c))]; exact p.append_right _
theorem addK_nodup {ks : List (List Nat)} {s : List Nat} (h : ks.Nodup) : (addK ks s).Nodup := by
  unfold addK
  split
  · exact h
  · rename_i hn
    rw [List.nodup_append]
    exact ⟨h, by simp, fun a ha b hb e => hn (by have : b = s := by simpa using hb
                                                 exact this ▸ e ▸ ha)⟩
theorem kvG_put {ks : List (List Nat)} {g : List Nat → V} {s : List Nat} {x : V} (nd : ks.Nodup) : putK (kvG ks g) (ky s) x = kvG (addK ks s) (setV g s x) := by
  refine kvG_eq ?_ (addK_nodup nd) fun q hq => ?_
  · unfold addK
    have e0 : (kvG ks g).map (·.1) = ks.map ky := by rw [List.map_map]; rfl
    by_cases h : s ∈ ks
    · rw [if_pos h, putK_keys (by rw [e0]; exact List.mem_map_of_mem h), e0]
    · rw [if_neg h, putK_new _ (kvG_none h), List.map_append, e0, List.map_append]; rfl
  · rw [valV_put]
    by_cases e : q = s
    · subst e; rw [if_pos rfl, setV_same]
    · rw [if_neg (fun c => e (ky_inj c)), setV_ne e, kvG_val ((mem_addK.mp hq).resolve_right e)]
theorem mergeK_kvG {g : List Nat → V} : ∀ {rs ks : List (List Nat)}, (ks ++ rs).Nodup → mergeK (kvG ks g) (kvG rs g) = kvG (ks ++ rs) g
  | [], ks, _ => by rw [List.append_nil]; rfl
  | s :: rs, ks, nd => by
    have hs : s ∉ ks := fun c => (List.nodup_append.mp nd).2.2 _ c _ List.mem_cons_self rfl
    show mergeK (putK (kvG ks g) (ky s) (g s)) (kvG rs g) = _
    rw [putK_new _ (kvG_none hs)]
    have := mergeK_kvG (g := g) (rs := rs) (ks := ks ++ [s]) (by simpa using nd)
    rw [show ks ++ s :: rs = ks ++ [s] ++ rs by simp, ← this]
    simp only [kvG, List.map_append]; rfl
def spAdd (K : PySem.W.Frag) (C : Addr) : Sp := fun vs H Q _ => ∃ (t r z a : Addr) (w : Nat) (ks : List (List Nat)) (g : List Nat → List Nat) (s x : List Nat), vs = [.ref t, .ref a] ∧ Tab C H t r z w ks g ∧ SqT K H a [tx s, tx x] ∧ Bt s ∧ s.length ≤ w ∧ x.length ≤ 6 ∧ isGoal (tx x) = true ∧ (addK ks s).length ≤ 40 ∧
  ∀ H' t' r' z', Grow H H' → H t' = none → H r' = none → H z' = none → Tab C H' t' r' z' w (addK ks s) (setG g s x) → Q (.ref t') H'
def addB (C : Addr) (s1 s2 : Sp) : S := .cons (.ite (.not (.call s1 (.cons (.own (.att [C] [] [] "own_width") (.v 0) .nil .nil) (.cons (.v 1) (.nil))) (.nil) [.p 0, .p 1])) (.cons (.bad) (.nil)) (.nil)) (.cons (.ret (.own (.make C s2 [.p 0, .p 1, .p 2]) .nil (.cons (.own (.att [C] [] [] "own_width") (.v 0) .nil .nil) (.cons (.own .ds1 (.own (.att [C] [] [] "own_rows") (.v 0) .nil .nil) (.cons (.sub (.v 1) (.c (.int 0))) (.cons (.sub (.v 1) (.c (.int 1))) .nil)) .nil) (.nil))) (.nil))) (.nil))
theorem rd_add (vs : List V) (H : Hp) (Q : VK) (R : XK) (h : spAdd K C vs H Q R) : vs.length = 2 ∧ wS K W (addB C (spIsRow K) (spInit C)) (Dn Q) (start ["a", "b"] vs) H := by
  obtain ⟨t, r, z, a, w, ks, g, s, x, rfl, tb, ha, bs, ls, lx, ox, hl, q⟩ := h
  obtain ⟨dx, ht⟩ := tb.at_
  obtain ⟨rs, hr, hp⟩ := tb.rows
  have hlr : rs.length ≤ 40 := by rw [hp.length_eq]; exact tb.few
  refine ⟨rfl, t, C, dx, _, rfl, ht, Or.inl ⟨by simp, _, lk1, ?_⟩⟩
  refine ⟨w, a, s, x, rfl, tb.w1, tb.w2, ha, bs, ls, lx, ox, ?_⟩
  refine ⟨t, C, dx, _, rfl, ht, Or.inl ⟨by simp, _, lk1, fun d hd => ?_⟩⟩
  have ht1 := keepA (o' := .dK []) ht hd
  have hr1 := keepA (o' := .dK []) hr.eq hd
  refine ⟨t, C, dx, _, rfl, ht1, Or.inl ⟨by simp, _, lk2, ?_⟩⟩
  have ndr : d ≠ r := fun c => by rw [c, hr.eq] at hd; cases hd
  refine ⟨r, _, rfl, .inl hr1, upd_same, ndr, by rw [List.length_map]; omega, fun e he => ?_⟩
  have em : mergeK [] (kvG rs fun s => tx (g s)) = kvG rs fun s => tx (g s) := mergeK_kvG (ks := []) (by simpa using hr.nd)
  rw [em] at he ⊢
  have nde : d ≠ e := fun c => by rw [← c, upd_same] at he; cases he
  have he0 : H e = none := by rw [upd_ne nde.symm, upd_ne nde.symm] at he; exact he
  have gr : Grow H (upd (upd (upd H d (.dK [])) d (.dK (kvG rs fun s => tx (g s)))) e (.dK [])) := fun b o eb => by
    rw [upd_ne (ne_of_none eb he0), upd_ne (ne_of_none eb hd), upd_ne (ne_of_none eb hd)]; exact eb
  have ha2 := gr.sqt ha
  refine Or.inr (Or.inl ⟨a, _, 0, tx s, rfl, rfl, ha2, rfl, ?_⟩)
  refine Or.inr (Or.inl ⟨a, _, 1, tx x, rfl, rfl, ha2, rfl, ?_⟩)
  refine ⟨ky s, _, rfl, nde, upd_same, by rw [upd_ne nde, upd_same], by rw [List.length_map]; omega, ?_⟩
  have ep : putK [] (ky s) (tx x) = [(ky s, tx x)] := rfl
  rw [ep]
  have e6 : mergeK (kvG rs fun s => tx (g s)) [(ky s, tx x)] = kvG (addK rs s) fun q => tx (setG g s x q) := by
    show putK (kvG rs fun s => tx (g s)) (ky s) (tx x) = _
    rw [kvG_put hr.nd]
    congr 1
    funext q
    unfold setV setG
    split <;> rfl
  rw [e6]
  refine make_tab (ks := addK rs s) (g := setG g s x) (H := H) (fun b o eb => by rw [upd_ne (ne_of_none eb hd), upd_ne (ne_of_none eb he0)]; exact gr b o eb) tb.w1 tb.w2 (by rw [(addK_perm hp).length_eq]; exact hl) (KD.of (addK_nodup hr.nd) upd_same) ⟨fun y hy => ?_, fun y hy => ?_⟩ fun H' t' r' z' a1 a2 a3 a4 a5 => q H' t' r' z' a1 a2 a3 a4 (a5.perm (addK_perm hp))
  · rcases mem_addK.mp hy with h | h
    · exact tb.ok.st y (hp.mem_iff.mp h)
    · rw [h]; exact ⟨bs, ls⟩
  · unfold setG
    split
    · exact ⟨lx, ox⟩
    · rename_i hne
      exact tb.ok.gl y (hp.mem_iff.mp ((mem_addK.mp hy).resolve_right hne))
end
end CW

namespace CW
open PySem PySem.Spec PyProof.Rows L2
/-! ## 35. Dicts of a law's own, and tables made of them -/
section
variable {K : PySem.W.Frag} {W : WX} {C : Addr}
theorem Chg.fresh {p l : Addr} {H H' : Hp} {o : HO} (c : Chg p H H') (hl : H l = none) (n : l ≠ p) : Chg p H (upd H' l o) := by
  obtain ⟨x, y, e, r⟩ := c.pot
  exact ⟨⟨x, y, by rw [upd_ne n.symm]; exact e, r⟩, fun b u hb z => by rw [upd_ne (ne_of_none z hl)]; exact c.old b u hb z⟩
theorem Tab.chg {H H' : Hp} {p t r z : Addr} {w : Nat} {ks : List (List Nat)} {g : List Nat → List Nat} (tb : Tab C H t r z w ks g) (c : Chg p H H') (nt : t ≠ p) (nr : r ≠ p) (nz : z ≠ p) : Tab C H' t r z w ks g :=
  tb.keep fun b o hb e => c.old b o (by rcases hb with rfl | rfl | rfl <;> assumption) e
theorem KD.chg {H H' : Hp} {p D : Addr} {ks : List (List Nat)} {g : List Nat → V} (h : KD H D ks g) (c : Chg p H H') (n : D ≠ p) : KD H' D ks g := h.congr fun _ e => c.old _ _ n e
def dO : Option (List Nat) → PyData
  | none => .none
  | some s => .str (T s)
theorem dp_O {H : Hp} : ∀ o : Option (List Nat), Dp K H (vO o) (dO o)
  | none => .non
  | some s => .str _
theorem fit_O {o : Option (List Nat)} (h : ∀ s, o = some s → s.length ≤ 100 ∧ ∀ c ∈ s, c < 128) : Fit 100 0 (dO o) := by
  cases o with
  | none => exact Fit.none.up (by decide) (by decide)
  | some s => exact Fit.str (by rw [T_len]; exact (h s rfl).1) (h s rfl).2
theorem goalO_congr {ks ls : List (List Nat)} {g g2 : List Nat → List Nat} {a : List Nat} (h1 : ∀ x, x ∈ ks ↔ x ∈ ls) (h2 : ∀ x ∈ ks, g x = g2 x) : goalO ks g a = goalO ls g2 a := by
  unfold goalO
  rw [rowO_congr (ks := ls) (ls := ks) fun x _ => (h1 x).symm]
  rcases rowO_cases ks a with ⟨e, _⟩ | ⟨s, e, h3, _⟩
  · rw [e]
  · rw [e]; exact h2 s h3
theorem dec_self (z : Str) : decide (V.str z = V.str z) = true := decide_eq_true rfl
theorem eqv_self {w k : Nat} {d : PyData} (f : Fit w k d) : PyData.eqv d d = true := PySem.SeqAt.eqv_refl d f.lay
theorem isGoal_ascii {x : List Nat} (h : isGoal (tx x) = true) : ∀ c ∈ x, c < 128 := by
  have h : (isName (tx x) || inV (tx x) [.str "home", .str "hole"]) = true := h
  rw [Bool.or_eq_true] at h
  rcases h with h | h
  · have h : ((decide (1 ≤ (T x).length) && decide ((T x).length ≤ 6)) && ((T x).cps.toList.all isLet && !inV (tx x) kept)) = true := h
    simp only [Bool.and_eq_true] at h
    have := List.all_eq_true.mp h.2.1
    intro c hc
    have := this c hc
    simp only [isLet, Bool.and_eq_true, decide_eq_true_eq] at this
    omega
  · have e : ([.str "home", .str "hole"] : List V) = [[104, 111, 109, 101], [104, 111, 108, 101]].map tx := by decide +kernel
    rw [e, inV_tx, decide_eq_true_eq] at h
    have : ∀ x ∈ ([[104, 111, 109, 101], [104, 111, 108, 101]] : List (List Nat)), ∀ c ∈ x, c < 128 := by decide
    exact this x h
theorem goalO_ok {w : Nat} {ks : List (List Nat)} {g : List Nat → List Nat} (ok : RwOk w ks g) (a : List Nat) : (goalO ks g a).length ≤ 6 ∧ ∀ c ∈ goalO ks g a, c < 128 := by
  unfold goalO
  rcases rowO_cases ks a with ⟨e, _⟩ | ⟨s, e, h1, _⟩
  · rw [e]; show ([104, 111, 108, 101] : List Nat).length ≤ 6 ∧ ∀ c ∈ ([104, 111, 108, 101] : List Nat), c < 128; decide
  · rw [e]; exact ⟨(ok.gl s h1).1, isGoal_ascii (ok.gl s h1).2⟩
theorem rowO_fit {w : Nat} {ks : List (List Nat)} {g : List Nat → List Nat} (ok : RwOk w ks g) (hw : w ≤ 100) (a : List Nat) : Fit 100 0 (dO (rowO ks a)) := fit_O fun s hs => by
  rcases rowO_cases ks a with ⟨e, _⟩ | ⟨s', e, h1, _⟩
  · rw [e] at hs; cases hs
  · rw [e] at hs; cases hs
    have := ok.st s h1
    exact ⟨by omega, this.1.ascii⟩
/-- the row of an address, by a law -/
def spLawRow : Sp := fun vs H Q _ => ∃ (d : Addr) (ks : List (List Nat)) (g : List Nat → List Nat) (a : List Nat), vs = [.ref d, tx a] ∧ KG H d ks g ∧ a.length ≤ 100 ∧ Q (vO (rowO ks a)) H
def lawRowB : S := .cons (.set (.v 2) (.c .non)) (.cons (.for_ (.v 3) (.rng1 (.cons (.bin .Add (.bi .len (.cons (.v 1) (.nil))) (.c (.int 1))) (.nil))) (.cons (.ite (.cmp .In (.slc (.v 1) (.nil) (.cons (.v 3) .nil)) (.v 0)) (.cons (.set (.v 2) (.slc (.v 1) (.nil) (.cons (.v 3) .nil))) (.nil)) (.nil)) (.nil))) (.cons (.ret (.v 2)) (.nil)))
theorem rd_lawRow (vs : List V) (H : Hp) (Q : VK) (R : XK) (h : spLawRow vs H Q R) : vs.length = 2 ∧ wS K W lawRowB (Dn Q) (start ["a", "b", "c", "d"] vs) H := by
  obtain ⟨d, ks, g, a, rfl, hd, hl, q⟩ := h
  have hz : (sizeLine : Nat) = 16777216 := sizeLine_eq
  refine ⟨rfl, ?_⟩
  show wS K W (.cons (.for_ (.v 3) (.rng1 (.cons (.bin .Add (.bi .len (.cons (.v 1) (.nil))) (.c (.int 1))) (.nil))) _) _) _ [some (.ref d), some (tx a), some .non, none] H
  refine for_rng1 (n := a.length + 1) (fun Q q => ?_) (by omega) (fun k σ H2 => H2 = H ∧ ∃ s3, σ = [some (.ref d), some (tx a), some (vO (rowO (ks.filter fun x => decide (x.length < k)) a)), s3]) ⟨rfl, none, ?_⟩ (fun k σ H2 hk h => ?_) (fun σ H2 h => ?_)
  · refine ⟨by rw [T_len]; omega, ?_⟩
    show Q (V.int (((T a).length : Int) + 1)) H
    rw [show (((T a).length : Int) + 1) = ((a.length + 1 : Nat) : Int) by rw [T_len]; omega]
    exact q
  · rw [rowO_none (by simp)]
  · obtain ⟨rfl, s3, rfl⟩ := h
    show wS K W (.cons (.ite (.cmp .In (.slc (.v 1) (.nil) (.cons (.v 3) .nil)) (.v 0)) (.cons (.set (.v 2) (.slc (.v 1) (.nil) (.cons (.v 3) .nil))) (.nil)) (.nil)) (.nil)) _ [some (.ref d), some (tx a), some (vO (rowO (ks.filter fun x => decide (x.length < k)) a)), some (.int (k : Nat))] H2
    refine ⟨by rw [T_len]; omega, ?_⟩
    rw [cut_to]
    obtain ⟨o, h1, h2⟩ := hd.has (a.take k)
    refine Or.inr (Or.inr ⟨o, h1, ?_⟩)
    rw [h2]
    show if (decide (a.take k ∈ ks)) = true then _ else _
    have lk : (a.take k).length = k := by rw [List.length_take]; omega
    by_cases hm : a.take k ∈ ks
    · rw [decide_eq_true hm, if_pos rfl]
      refine ⟨by rw [T_len]; omega, ?_⟩
      rw [cut_to]
      refine ⟨rfl, some (.int (k : Nat)), ?_⟩
      have er : rowO (ks.filter fun x => decide (x.length < k + 1)) a = some (a.take k) := rowO_some (List.mem_filter.mpr ⟨hm, by rw [decide_eq_true_eq]; omega⟩) (List.take_prefix _ _) fun x hx _ => by
        have := (List.mem_filter.mp hx).2
        rw [decide_eq_true_eq] at this
        omega
      rw [er]
      rfl
    · rw [decide_eq_false hm, if_neg (by decide)]
      refine ⟨rfl, some (.int (k : Nat)), ?_⟩
      rw [rowO_congr (ks := ks.filter fun x => decide (x.length < k + 1)) (ls := ks.filter fun x => decide (x.length < k)) fun x hx => ?_]
      rw [List.mem_filter, List.mem_filter, decide_eq_true_eq, decide_eq_true_eq]
      refine ⟨fun ⟨p1, p2⟩ => ⟨p1, ?_⟩, fun ⟨p1, p2⟩ => ⟨p1, by omega⟩⟩
      rcases Nat.lt_or_ge x.length k with c | c
      · exact c
      · have : x.length = k := by omega
        rw [List.prefix_iff_eq_take.mp hx, this] at p1
        exact absurd p1 hm
  · obtain ⟨rfl, s3, rfl⟩ := h
    rw [rowO_congr (ks := ks.filter fun x => decide (x.length < a.length + 1)) (ls := ks) fun x hx => ?_]
    · exact q
    · have := hx.length_le
      rw [List.mem_filter, decide_eq_true_eq]
      exact ⟨fun h => h.1, fun h => ⟨h, by omega⟩⟩
theorem make_tabP {H H2 : Hp} {D : Addr} {w : Nat} {ks : List (List Nat)} {g : List Nat → List Nat} {P : Hp → Prop} {R : XK} {x dx : Addr} (hx : H2 x = none) (hdx : H2 dx = none) (hne : dx ≠ x) (b2 : Grow H H2) (w1 : 1 ≤ w) (w2 : w ≤ 100) (hl : ks.length ≤ 40) (hD : KG H2 D ks g) (ok : RwOk w ks g)
    (q : ∀ H' r' z', Grow H H' → H x = none → H r' = none → H z' = none → Tab C H' x r' z' w ks g → P H') : spInit C [.ref x, .int w, .ref D] (upd (upd H2 dx (.own x)) x (.ins C dx [])) (fun v H3 => v = .non ∧ P H3) R := by
  have f2 : ∀ b, H2 b = none → H b = none := fun b hb => by
    cases e : H b with
    | none => rfl
    | some o => rw [b2 b o e] at hb; cases hb
  have nDx : D ≠ x := fun c => by rw [← c, hD.eq] at hx; cases hx
  have nDd : D ≠ dx := fun c => by rw [← c, hD.eq] at hdx; cases hdx
  refine ⟨x, D, dx, w, ks, g, rfl, w1, w2, upd_same, hl, hD.congr fun _ e => by rw [upd_ne nDx, upd_ne nDd]; exact e, ok, fun H' r z bt hr hz tb => ⟨rfl, q H' r z (fun b o e => ?_) (f2 x hx) ?_ ?_ tb⟩⟩
  · have nbx : b ≠ x := fun c => by rw [c, f2 x hx] at e; cases e
    have nbd : b ≠ dx := fun c => by rw [c, f2 dx hdx] at e; cases e
    exact bt b o nbx (by rw [upd_ne nbx, upd_ne nbd]; exact b2 b o e)
  · have n1 : r ≠ x := fun c => by rw [c, upd_same] at hr; cases hr
    have n2 : r ≠ dx := fun c => by rw [c, upd_ne hne, upd_same] at hr; cases hr
    rw [upd_ne n1, upd_ne n2] at hr; exact f2 r hr
  · have n1 : z ≠ x := fun c => by rw [c, upd_same] at hz; cases hz
    have n2 : z ≠ dx := fun c => by rw [c, upd_ne hne, upd_same] at hz; cases hz
    rw [upd_ne n1, upd_ne n2] at hz; exact f2 z hz
/-- how many rows -/
def spLenT (C : Addr) : Sp := fun vs H Q _ => ∃ (t r z : Addr) (w : Nat) (ks : List (List Nat)) (g : List Nat → List Nat), vs = [.ref t] ∧ Tab C H t r z w ks g ∧ Q (.int (ks.length : Nat)) H
def lenTB (C : Addr) : S := .cons (.ret (.bi .len (.cons (.own (.att [C] [] [] "own_rows") (.v 0) .nil .nil) (.nil)))) (.nil)
theorem rd_lenT (vs : List V) (H : Hp) (Q : VK) (R : XK) (h : spLenT C vs H Q R) : vs.length = 1 ∧ wS K W (lenTB C) (Dn Q) (start ["a"] vs) H := by
  obtain ⟨t, r, z, w, ks, g, rfl, tb, q⟩ := h
  obtain ⟨dx, ht⟩ := tb.at_
  obtain ⟨rs, hr, hp⟩ := tb.rows
  refine ⟨rfl, t, C, dx, _, rfl, ht, Or.inl ⟨by simp, _, lk2, Or.inr (Or.inr ⟨_, hr.eq, ?_⟩)⟩⟩
  rw [List.length_map, hp.length_eq]; exact q
theorem wipe1 (σ : L2.St) (i : Nat) : wipe σ [i] = σ.set i none := rfl
theorem wipe_set (σ : L2.St) (i : Nat) (x : Option V) : wipe ((wipe σ [i]).set i x) [i] = wipe σ [i] := by
  simp only [wipe1, List.set_set]
theorem wipe_get {σ : L2.St} {i j : Nat} {x : Option V} (h : i ≠ j) : ((wipe σ [i]).set i x)[j]? = σ[j]? := by
  rw [wipe1, List.set_set, List.getElem?_set_ne h]
theorem wipe_own {σ : L2.St} {i : Nat} {x : Option V} (h : i < σ.length) : ((wipe σ [i]).set i x)[i]? = some x := by
  rw [wipe1, List.set_set, List.getElem?_set_self h]
theorem wE_v {σ : L2.St} {i : Nat} {x : V} {H : Hp} {Q : VK} (h : σ[i]? = some (some x)) (q : Q x H) : wE K W (.v i) σ H Q := by
  show (match σ[i]? with | some (some x) => Q x H | _ => False)
  rw [h]; exact q
theorem e_lc {e t it cs : E} {own : List Nat} {σ : L2.St} {H : Hp} {Q : VK} (h : wI K W it σ H fun J H1 => ∀ D, H1 D = none → ∃ Wn : Nat → Nat → Hp → Prop, (∃ m, Wn 0 m (upd H1 D (.lst []))) ∧ ∀ i m H, Wn i m H →
      (J.stop i H ∧ Q (.ref D) H) ∨ (J.go i H ∧ ∃ Nx : Hp → Prop, (∀ H', Nx H' → ∃ m', m' < m ∧ Wn (i + 1) m' H') ∧ ∀ x H', J.yld i H x H' → wG K W0 t x (wipe σ own) H' fun σ2 H2 => wipe σ2 own = wipe σ own ∧ wC K W0 cs σ2 H2 fun b H3 =>
        if b = true then wE K W0 e σ2 H3 fun y H4 => ∃ acc, H4 D = some (.lst acc) ∧ acc.length < sizeLine ∧ Nx (upd H4 D (.lst (acc ++ [y]))) else Nx H3)) : wE K W (.lc e t it cs own) σ H Q := h
theorem i_kd {a : E} {σ : L2.St} {H : Hp} {R : It → Hp → Prop} (h : wE K W a σ H fun x H1 => ∃ d o, x = .ref d ∧ ((∃ kvs, H1 d = some (.frz o (.dK kvs)) ∧ R (Itk d o kvs) H1) ∨ ∃ kvs, H1 d = some (.frz o (.dT kvs)) ∧ R (Itkt d o kvs) H1)) : wI K W (.kd a) σ H R := h
theorem e_dict {a : E} {σ : L2.St} {H : Hp} {Q : VK} (h : wE K W a σ H fun x H1 => (∃ (a : Addr) (ps : List Addr) (kvs : List (Key × V)), x = .ref a ∧ SqL K H1 a (ps.map V.ref) ∧ Paired (fun p kv => SqT K H1 p [kV kv.1, kv.2]) ps kvs ∧ ∀ p, H1 p = none → Q (.ref p) (upd H1 p (.dK (mergeK [] kvs)))) ∨
      ∃ (a : Addr) (kvs : List (Key × V)), x = .ref a ∧ Rd H1 a (.dK kvs) ∧ ∀ p, H1 p = none → Q (.ref p) (upd H1 p (.dK kvs))) : wE K W (.own .dict a .nil .nil) σ H Q := h
theorem e_bin {op : Operator} {a b : E} {σ : L2.St} {H : Hp} {Q : VK} (h : wE K W a σ H fun x H1 => wE K W b σ H1 fun y H2 => rBin K op x y H2 Q) : wE K W (.bin op a b) σ H Q := h
theorem e_listItems {a : E} {σ : L2.St} {H : Hp} {Q : VK} (h : wE K W a σ H fun x H1 => LiI.rItemsL x H1 Q) : wE K W (.own .listItems a .nil .nil) σ H Q := h
theorem c_cons {a r : E} {σ : L2.St} {H : Hp} {Q : Bool → Hp → Prop} (h : wT K W a σ H Q) : wC K W (.cons a r) σ H Q := h
theorem a_cons {a r : E} {σ : L2.St} {H : Hp} {Q : List V → Hp → Prop} (h : wE K W a σ H fun x H1 => wA K W r σ H1 fun xs H2 => Q (x :: xs) H2) : wA K W (.cons a r) σ H Q := h
theorem e_tup {as : E} {σ : L2.St} {H : Hp} {Q : VK} (h : wA K W as σ H fun xs H1 => xs.length ≤ sizeLine ∧ ∀ p, H1 p = none → Q (.ref p) (upd H1 p (.tup xs))) : wE K W (.tup as) σ H Q := h
theorem e_sub {a i : E} {σ : L2.St} {H : Hp} {Q : VK} (h : wE K W a σ H fun x H1 => wE K W i σ H1 fun y H2 => rSub K x y H2 Q) : wE K W (.sub a i) σ H Q := h
theorem e_slc {a l h : E} {σ : L2.St} {H : Hp} {Q : VK} (z : wE K W a σ H fun x H1 => wO K W l σ H1 fun lo H2 => wO K W h σ H2 fun hi H3 => rSlc K x lo hi H3 Q) : wE K W (.slc a l h) σ H Q := z
theorem o_nil {σ : L2.St} {H : Hp} {Q : Option Int → Hp → Prop} (h : Q none H) : wO K W .nil σ H Q := h
theorem o_cons {a r : E} {σ : L2.St} {H : Hp} {Q : Option Int → Hp → Prop} (h : wE K W a σ H fun x H1 => match x with | .int i => Q (some i) H1 | _ => False) : wO K W (.cons a r) σ H Q := h
theorem e_call {sp : Sp} {as ks : E} {ar : List Ar} {σ : L2.St} {H : Hp} {Q : VK} (h : wA K W as σ H fun vs H1 => wA K W ks σ H1 fun zs H2 => sp (arr ar vs zs) H2 Q fun cls d H' => W cls d σ H') : wE K W (.call sp as ks ar) σ H Q := h
theorem e_lst {as : E} {σ : L2.St} {H : Hp} {Q : VK} (h : wA K W as σ H fun xs H1 => xs.length ≤ sizeLine ∧ ∀ p, H1 p = none → Q (.ref p) (upd H1 p (.lst xs))) : wE K W (.lst as) σ H Q := h
theorem e_bi {b : Bi} {as : E} {σ : L2.St} {H : Hp} {Q : VK} (h : wA K W as σ H fun xs H1 => rBi K b xs H1 Q) : wE K W (.bi b as) σ H Q := h
/-- dict([(x, d[x]) for x in d if x != s]) -/
theorem lessE {σ : L2.St} {i j k : Nat} {d : Addr} {ks : List (List Nat)} {g : List Nat → List Nat} {s : List Nat} {H : Hp} {Q : VK} (hi : i < σ.length) (nij : i ≠ j) (nik : i ≠ k) (hj : σ[j]? = some (some (.ref d))) (hk : σ[k]? = some (some (tx s))) (hl : ks.length ≤ 1000) (kd : KG H d ks g)
    (q : ∀ e H', Grow H H' → H e = none → KG H' e (ks.filter fun x => decide (x ≠ s)) g → Q (.ref e) H') :
    wE K W (.own .dict (.lkE (.lc (.tup (.cons (.v i) (.cons (.sub (.v j) (.v i)) (.nil)))) (.v i) (.kd (.v j)) (.cons (.cmp .NotEq (.v i) (.v k)) .nil) [i])) .nil .nil) σ H Q := by
  have hz : (sizeLine : Nat) = 16777216 := sizeLine_eq
  refine ⟨d, _, kd.eq, trivial, fun od => ?_⟩
  refine e_lc (i_kd (wE_v hj ?_))
  refine ⟨d, od, rfl, Or.inl ⟨_, upd_same, fun D hD => ?_⟩⟩
  have nDd : D ≠ d := fun c => by rw [c, upd_same] at hD; cases hD
  have hD7 : H D = none := by rw [upd_ne nDd] at hD; exact hD
  refine lc_it (walk_keys (kvs := kvG ks fun s => tx (g s))) (fun i Hc => Hc d = some (.frz od (.dK (kvG ks fun s => tx (g s)))) ∧ (∀ b o, b ≠ d → b ≠ D → H b = some o → Hc b = some o) ∧ ∃ ps : List Addr, Hc D = some (.lst (ps.map V.ref)) ∧ ps.length ≤ i ∧ Paired (fun a (kv : Key × V) => Hc a = some (.tup [kV kv.1, kv.2])) ps (kvG ((ks.take i).filter fun x => decide (x ≠ s)) fun s => tx (g s)))
    ⟨by rw [upd_ne nDd.symm]; exact upd_same, fun b o h1 h2 e => by rw [upd_ne h2, upd_ne h1]; exact e, [], upd_same, Nat.le_refl _, .nil⟩ (fun i Hc _ h => h.1) (fun n y Hc Hc' hn h yy => ?_) (fun Hc h => ?_)
  · obtain ⟨rfl, kk, v, ek, rfl⟩ := yy
    rw [List.length_map] at hn
    obtain ⟨u, eu⟩ : ∃ u, ks[n]? = some u := ⟨ks[n], List.getElem?_eq_getElem hn⟩
    rw [kvG_get eu] at ek
    cases ek
    obtain ⟨h1, h2, ps, h3, h4, h5⟩ := h
    have gi : ((wipe σ [i]).set i (some (kV (ky u))))[i]? = some (some (tx u)) := wipe_own hi
    have gj : ((wipe σ [i]).set i (some (kV (ky u))))[j]? = some (some (.ref d)) := by rw [wipe_get nij]; exact hj
    have gk : ((wipe σ [i]).set i (some (kV (ky u))))[k]? = some (some (tx s)) := by rw [wipe_get nik]; exact hk
    refine ⟨wipe_set .., ?_⟩
    refine c_cons (t_cmp (wE_v gi (wE_v gk ?_)))
    refine ⟨rfl, ?_⟩
    show if (!decide (tx u = tx s)) = true then _ else _
    rw [dec_tx]
    by_cases hus : u = s
    · rw [decide_eq_true hus, if_neg (by decide)]
      refine ⟨h1, h2, ps, h3, by omega, ?_⟩
      rw [take_snoc eu, List.filter_append]
      simpa [hus] using h5
    · rw [decide_eq_false hus, if_pos (by decide)]
      have hg : DGet Hc' d (tx u) (some (tx (g u))) := Or.inl ⟨_, ky u, .inr ⟨od, h1⟩, rfl, (kvG_val (g := fun s => tx (g s)) (List.mem_of_getElem? eu)).symm⟩
      refine e_tup (a_cons (wE_v gi (a_cons (e_sub (wE_v gj (wE_v gi ?_))))))
      refine Or.inr (Or.inr ⟨_, hg, by show 2 ≤ sizeLine; decide, fun T0 hT => ?_⟩)
      refine ⟨_, keepA h3 hT, by rw [List.length_map]; omega, by rw [upd_ne nDd.symm]; exact keepA h1 hT, fun b o n1 n2 e => by rw [upd_ne n2]; exact keepA (h2 b o n1 n2 e) hT, ps ++ [T0], by rw [upd_same, List.map_append]; rfl, by simp; omega, ?_⟩
      have nTD : T0 ≠ D := fun c => by rw [c, h3] at hT; cases hT
      rw [take_snoc eu, List.filter_append]
      have e5 : [u].filter (fun x => decide (x ≠ s)) = [u] := by simp [hus]
      rw [e5]
      simp only [kvG, List.map_append]
      refine Paired.snoc (Paired.mono (fun a kv e => ?_) h5) (by rw [upd_ne nTD]; exact upd_same)
      rw [upd_ne (fun c => by rw [c, h3] at e; cases e)]; exact keepA e hT
  obtain ⟨h1, h2, ps, h3, h4, h5⟩ := h
  refine ⟨h1, ?_⟩
  rw [show (kvG ks fun s => tx (g s)).length = ks.length from List.length_map .., List.take_length] at h5
  have g8 : Grow H (upd Hc d (.dK (kvG ks fun s => tx (g s)))) := fun b o e => by
    by_cases c : b = d
    · rw [c, upd_same, ← kd.eq, ← c]; exact e
    · rw [upd_ne c]; exact h2 b o c (fun c2 => by rw [c2, hD7] at e; cases e) e
  have h3' : upd Hc d (.dK (kvG ks fun s => tx (g s))) D = some (.lst (ps.map V.ref)) := by rw [upd_ne nDd]; exact h3
  have h5' : Paired (fun a (kv : Key × V) => upd Hc d (.dK (kvG ks fun s => tx (g s))) a = some (.tup [kV kv.1, kv.2])) ps (kvG (ks.filter fun x => decide (x ≠ s)) fun s => tx (g s)) := Paired.mono (fun a kv e => by rw [upd_ne (fun c => by rw [c, h1] at e; cases e)]; exact e) h5
  generalize upd Hc d (.dK (kvG ks fun s => tx (g s))) = H8 at g8 h3' h5'
  have ndL : (ks.filter fun x => decide (x ≠ s)).Nodup := kd.nd.filter _
  refine Or.inl ⟨D, ps, _, rfl, SqL.of h3', Paired.mono (fun a kv e => .inl (.inl e)) h5', fun e1 he1 => ?_⟩
  have em : mergeK [] (kvG (ks.filter fun x => decide (x ≠ s)) fun s => tx (g s)) = kvG (ks.filter fun x => decide (x ≠ s)) fun s => tx (g s) := mergeK_kvG (ks := []) (by simpa using ndL)
  rw [em]
  have h0 : H e1 = none := by
    cases e : H e1 with
    | none => rfl
    | some o => rw [g8 _ _ e] at he1; cases he1
  exact q e1 _ (g8.new he1) h0 (KD.of ndL upd_same)
/-- dict(list(d.items()) + [(s, x)]) -/
theorem moreE {σ : L2.St} {j : Nat} {d : Addr} {ks : List (List Nat)} {g : List Nat → List Nat} {s x : List Nat} {H : Hp} {Q : VK} {ea eb : E} (hj : σ[j]? = some (some (.ref d))) (hl : ks.length ≤ 1000) (kd : KG H d ks g)
    (ha : ∀ H1 Q1, Q1 (tx s) H1 → wE K W ea σ H1 Q1) (hb : ∀ H1 Q1, Q1 (tx x) H1 → wE K W eb σ H1 Q1)
    (q : ∀ e H', Grow H H' → H e = none → KG H' e (addK ks s) (setG g s x) → Q (.ref e) H') :
    wE K W (.own .dict (.bin .Add (.own .listItems (.v j) .nil .nil) (.lst (.cons (.tup (.cons ea (.cons eb .nil))) .nil))) .nil .nil) σ H Q := by
  have hz : (sizeLine : Nat) = 16777216 := sizeLine_eq
  refine e_dict (e_bin (e_listItems (wE_v hj ?_)))
  refine ⟨d, _, rfl, kd.eq, fun H10 pl ts gr10 hpl hts hnin hpl10 hpd => ?_⟩
  have g10 : Grow H H10 := gr10
  refine ha _ _ (hb _ _ ?_)
  refine ⟨by show 2 ≤ sizeLine; decide, fun q6 hq6 => ⟨by show 1 ≤ sizeLine; decide, fun q7 hq7 => ?_⟩⟩
  have g13 : Grow H10 (upd (upd H10 q6 (.tup [tx s, tx x])) q7 (.lst [.ref q6])) := (Grow.refl.new hq6).new hq7
  have hq613 : upd (upd H10 q6 (.tup [tx s, tx x])) q7 (.lst [.ref q6]) q6 = some (.tup [tx s, tx x]) := keepA upd_same hq7
  refine Or.inl ⟨pl, q7, _, _, rfl, rfl, g13 _ _ hpl10, upd_same, ?_, fun q8 hq8 => ?_⟩
  · have := hpd.length
    rw [List.length_map] at this ⊢
    simp only [List.length_cons, List.length_nil]; omega
  have g14 := g13.new (o := .lst (ts.map V.ref ++ [.ref q6])) hq8
  have hq614 := keepA (o' := .lst (ts.map V.ref ++ [.ref q6])) hq613 hq8
  refine Or.inl ⟨q8, ts ++ [q6], kvG ks (fun s => tx (g s)) ++ [(ky s, tx x)], rfl, ?_, ?_, fun e2 he2 => ?_⟩
  · rw [List.map_append]; exact SqL.of upd_same
  · exact Paired.snoc (Paired.mono (fun a kv e => .inl (.inl (g14 _ _ e))) hpd) (.inl (.inl hq614))
  have em2 : mergeK [] (kvG ks (fun s => tx (g s)) ++ [(ky s, tx x)]) = kvG (addK ks s) fun q => tx (setG g s x q) := by
    have e0 : mergeK [] (kvG ks (fun s => tx (g s)) ++ [(ky s, tx x)]) = putK (mergeK [] (kvG ks fun s => tx (g s))) (ky s) (tx x) := by
      unfold mergeK; rw [List.foldl_append]; rfl
    have em : mergeK [] (kvG ks fun s => tx (g s)) = kvG ks fun s => tx (g s) := mergeK_kvG (ks := []) (by simpa using kd.nd)
    rw [e0, em]
    show putK (kvG ks fun s => tx (g s)) (ky s) (tx x) = _
    rw [kvG_put kd.nd]
    congr 1
    funext q
    unfold setV setG
    split <;> rfl
  rw [em2]
  have gA := g10.trans g14
  have h0 : H e2 = none := by
    cases e : H e2 with
    | none => rfl
    | some o => rw [gA _ _ e] at he2; cases he2
  exact q e2 _ (gA.new he2) h0 (KD.of (addK_nodup kd.nd) upd_same)
/-- a comprehension that only makes new data: its values by place -/
theorem lc_map {J : It} {n : Nat} {G : Hp → Prop} {Y : Nat → Hp → V → Hp → Prop} (w : Walk J n G Y) {g : TG} {tt : TT} {te : TE} {vs : List Nat} {σ : L2.St} {H : Hp} {D : Addr} {Qd : Hp → Prop} (f : Nat → V) (hn : n < 1000000) (hD : H D = none) (hG : ∀ H2, Grow H H2 → G H2)
    (step : ∀ i x H2 H3, i < n → Grow H H2 → Y i H2 x H3 → Grow H2 H3 ∧ ∀ (R : V → Hp → Prop) (N : Hp → Prop), (∀ H4, Grow H3 H4 → R (f i) H4) → g x (wipe σ vs) H3 fun σ2 H4 => wipe σ2 vs = wipe σ vs ∧ tt σ2 H4 fun b H5 => if b = true then te σ2 H5 R else N H5)
    (done : ∀ H', Grow H H' → H' D = some (.lst ((List.range n).map f)) → Qd H') :
    ∃ W : Nat → Nat → Hp → Prop, (∃ m, W 0 m (upd H D (.lst []))) ∧ ∀ i m H, W i m H → (J.stop i H ∧ Qd H) ∨ (J.go i H ∧ ∃ Nx : Hp → Prop, (∀ H', Nx H' → ∃ m', m' < m ∧ W (i + 1) m' H') ∧ ∀ x H', J.yld i H x H' → g x (wipe σ vs) H' fun σ2 H2 => wipe σ2 vs = wipe σ vs ∧ tt σ2 H2 fun b H3 => if b = true then te σ2 H3 fun y H4 => ∃ acc, H4 D = some (.lst acc) ∧ acc.length < sizeLine ∧ Nx (upd H4 D (.lst (acc ++ [y]))) else Nx H3) := by
  have hz : (sizeLine : Nat) = 16777216 := sizeLine_eq
  refine lc_it w (fun i H2 => Grow H H2 ∧ H2 D = some (.lst ((List.range i).map f))) ⟨Grow.refl.new hD, upd_same⟩ (fun i H2 _ h => hG H2 h.1) (fun i x H2 H3 hi h y => ?_) (fun H2 h => done H2 h.1 h.2)
  obtain ⟨g1, h1⟩ := h
  obtain ⟨g2, st⟩ := step i x H2 H3 hi g1 y
  refine st _ _ fun H4 g4 => ⟨_, g4 _ _ (g2 _ _ h1), by rw [List.length_map, List.length_range]; omega, fun b o e => ?_, ?_⟩
  · rw [upd_ne (ne_of_none e hD)]; exact g4 _ _ (g2 _ _ (g1 _ _ e))
  · rw [upd_same, List.range_succ, List.map_append]; rfl
theorem kb_ofE {K : PySem.W.Frag} {fd : FuncData} {ps : List Str} {n : Nat} {ks : List Str} {ar : List Ar} {T : Addr} {oc : Value} {od : Option Addr} {osl : Array (Option Value)} {items : Array Value} {c : Nat} (hd : ar.all noD = true) (hT : K.lookup T = some ⟨oc, od, .seq items c, osl⟩) (hf : fd.defaults = .ref T)
    (h : ∀ us ws : List Value, us.length = n → ws.length = ks.length → ∃ k : Option (Array Value) → Sem (List (Str × Value)), bindArgs fd ⟨us, ks.zip ws⟩ = seqItems? fd.defaults >>= k ∧ k (some items) = pure (ps.zip (arrU ar us ws))) : KB K fd ps n ks ar :=
  ⟨arrU ar, fun _ us ws X l1 l2 => let ⟨_, h1, h2⟩ := h us ws l1 l2; .of_defaults hf (X _ _ hT) rfl h1 h2, fun r1 r2 _ _ => vals_arr r1 r2 hd⟩
end
end CW

set_option maxRecDepth 100000
set_option maxHeartbeats 1000000
namespace L17
open PySem L2 CW
structure Ad where
  KEPT_WORDS : Addr
  Table : Addr
def sp_is_integer (K : PySem.W.Frag) (A : Ad) : Sp := spIsInt K
def sp_is_width (K : PySem.W.Frag) (A : Ad) : Sp := spIsWidth K
def sp_is_bits (K : PySem.W.Frag) (A : Ad) : Sp := spIsBits K
def sp_is_name (K : PySem.W.Frag) (A : Ad) : Sp := spIsName K
def sp_is_goal (K : PySem.W.Frag) (A : Ad) : Sp := spIsGoal K
def sp_is_row (K : PySem.W.Frag) (A : Ad) : Sp := spIsRow K
def sp_are_rows (K : PySem.W.Frag) (A : Ad) : Sp := spAreRows K
def sp_want_width (K : PySem.W.Frag) (A : Ad) : Sp := spWantWidth
def sp_is_address (K : PySem.W.Frag) (A : Ad) : Sp := spIsAddress K
def sp_is_stretch (K : PySem.W.Frag) (A : Ad) : Sp := spIsStretch K
def sp_want_address (K : PySem.W.Frag) (A : Ad) : Sp := spWantAddress
def sp_Table___init__ (K : PySem.W.Frag) (A : Ad) : Sp := spInit A.Table
def sp_Table___len__ (K : PySem.W.Frag) (A : Ad) : Sp := spLenT A.Table
def sp_Table_row_of (K : PySem.W.Frag) (A : Ad) : Sp := spRowOf A.Table
def sp_Table_goal_of (K : PySem.W.Frag) (A : Ad) : Sp := spGoalOf A.Table
def sp_Table_row (K : PySem.W.Frag) (A : Ad) : Sp := spRow A.Table
def sp_Table___call__ (K : PySem.W.Frag) (A : Ad) : Sp := spCall A.Table
def sp_Table___contains__ (K : PySem.W.Frag) (A : Ad) : Sp := spContains A.Table
def sp_Table___sub__ (K : PySem.W.Frag) (A : Ad) : Sp := spSub A.Table
def sp_Table___add__ (K : PySem.W.Frag) (A : Ad) : Sp := spAdd K A.Table
def sp__law_draw (K : PySem.W.Frag) (A : Ad) : Sp := spDraw
def sp__law_among (K : PySem.W.Frag) (A : Ad) : Sp := spAmong K
def sp__law_pot (K : PySem.W.Frag) (A : Ad) : Sp := spPot K
def sp__law_bits (K : PySem.W.Frag) (A : Ad) : Sp := spBits
def turn (s : List Nat) : List Nat := s.dropLast ++ [97 - s.getLastD 48]
def sp__law_turned (K : PySem.W.Frag) (A : Ad) : Sp := fun vs H Q _ => ∃ s : List Nat, vs = [tx s] ∧ s ≠ [] ∧ s.length ≤ 100 ∧ Bt s ∧ ∀ H', Grow H H' → Q (tx (turn s)) H'
def sp__law_parts (K : PySem.W.Frag) (A : Ad) : Sp := fun vs H Q _ => ∃ (p : Addr) (w : Nat), vs = [.ref p, .int w] ∧ Pot H p ∧ 30 ≤ w ∧ w ≤ 100 ∧ ∀ (line : List Nat) (ks : List (List Nat)) (t l : Addr) (H' : Hp), line.length = w → Bt line → ks.length ≤ 40 → ks.Nodup → StOk w ks → H t = none → H l = none → Chg p H H' → H' t = some (.tup [tx line, .ref l]) → H' l = some (.lst (ks.map tx)) → Q (.ref t) H'
def sp__law_row (K : PySem.W.Frag) (A : Ad) : Sp := spLawRow
def sp__law_place (K : PySem.W.Frag) (A : Ad) : Sp := fun vs H Q _ => ∃ (p l : Addr) (w : Nat) (line : List Nat) (ks : List (List Nat)), vs = [.ref p, .int w, tx line, .ref l] ∧ Pot H p ∧ 30 ≤ w ∧ w ≤ 100 ∧ line.length = w ∧ Bt line ∧ ks.length ≤ 40 ∧ StOk w ks ∧ l ≠ p ∧ H l = some (.lst (ks.map tx)) ∧ ∀ (a : List Nat) (H' : Hp), Bt a → a.length = w → Chg p H H' → Q (tx a) H'
def sp__law_is_right (K : PySem.W.Frag) (A : Ad) : Sp := fun vs H Q _ => ∃ (t r z d : Addr) (w : Nat) (ks ls : List (List Nat)) (g g2 : List Nat → List Nat) (a : List Nat), vs = [.ref t, .ref d, tx a] ∧ Tab A.Table H t r z w ks g ∧ KG H d ls g2 ∧ (∀ x, x ∈ ks ↔ x ∈ ls) ∧ (∀ x ∈ ks, g x = g2 x) ∧ Bt a ∧ a.length = w ∧ ∀ H', Grow H H' → Q (.bl true) H'
def sp__law_right (K : PySem.W.Frag) (A : Ad) : Sp := spRight
def sp_law (K : PySem.W.Frag) (A : Ad) : Sp := spLaw K


def top (i : Nat) : Stmt := PySem.Challenge.pw_coverways_k17_goals_of_wide_addresses.main.body.getD i (.Pass ⟨0, 0, 0, 0⟩)
abbrev st__law_draw : Stmt := top 35
abbrev N__law_draw : List Str := ["_law_pot_here", "_law_many", "_law_digit"]
theorem s__law_draw : FnScope N__law_draw ["_law_pot_here", "_law_many"] (defScope st__law_draw) := ⟨rfl, rfl, rfl, by decide +kernel, rfl, by decide +kernel, by decide +kernel⟩
def tb__law_draw (K : PySem.W.Frag) (A : Ad) : List (Str × Gv) := [("divmod", .bi .divmod), ("int", .ty .int (some .int))]
def cl__law_draw (K : PySem.W.Frag) (A : Ad) : List CI := []
def b__law_draw (K : PySem.W.Frag) (A : Ad) : S := .cons (.ite (.cmp .Gt (.sub (.v 0) (.c (.int 0))) (.c (.int 0))) (.cons (.set (.tup (.cons (.sub (.v 0) (.c (.int 0))) (.cons (.v 2) (.nil)))) (.bi .divmod (.cons (.sub (.v 0) (.c (.int 0))) (.cons (.v 1) (.nil))))) (.cons (.ret (.v 2)) (.nil))) (.nil)) (.cons (.set (.sub (.v 0) (.c (.int 1))) (.bin .Mod (.bi .int (.cons (.bin .Add (.bin .Mult (.sub (.v 0) (.c (.int 1))) (.c (.int 48271))) (.c (.int 7091))) (.nil))) (.c (.int 2147483563)))) (.cons (.ret (.bin .Mod (.bi .int (.cons (.bin .FloorDiv (.bin .Mod (.bi .int (.cons (.bin .Mult (.sub (.v 0) (.c (.int 1))) (.sub (.v 0) (.c (.int 1)))) (.nil))) (.c (.int 2147483497))) (.c (.int 31))) (.nil))) (.v 1))) (.nil)))
def hk__law_draw : List (Nat × Nat) := []
def ow__law_draw : List (Nat × Nat × Nat) := []
theorem c__law_draw (K : PySem.W.Frag) (A : Ad) : compSs 40 ⟨N__law_draw, defScope st__law_draw, fun _ => true, tb__law_draw K A, hk__law_draw, cl__law_draw K A, ow__law_draw⟩ (defBody st__law_draw) = some (b__law_draw K A) := by kernel_rfl
abbrev st__law_among : Stmt := top 36
abbrev N__law_among : List Str := ["_law_pot_here", "_law_some"]
theorem s__law_among : FnScope N__law_among ["_law_pot_here", "_law_some"] (defScope st__law_among) := ⟨rfl, rfl, rfl, by decide +kernel, rfl, by decide +kernel, by decide +kernel⟩
def tb__law_among (K : PySem.W.Frag) (A : Ad) : List (Str × Gv) := [("_law_draw", .fn ["_law_pot_here", "_law_many"] [(2, [], [.p 0, .p 1])] (sp__law_draw K A)), ("len", .bi .len)]
def cl__law_among (K : PySem.W.Frag) (A : Ad) : List CI := []
def b__law_among (K : PySem.W.Frag) (A : Ad) : S := .cons (.ret (.sub (.v 1) (.call (sp__law_draw K A) (.cons (.v 0) (.cons (.bi .len (.cons (.v 1) (.nil))) (.nil))) (.nil) [.p 0, .p 1]))) (.nil)
def hk__law_among : List (Nat × Nat) := []
def ow__law_among : List (Nat × Nat × Nat) := []
theorem c__law_among (K : PySem.W.Frag) (A : Ad) : compSs 40 ⟨N__law_among, defScope st__law_among, fun _ => true, tb__law_among K A, hk__law_among, cl__law_among K A, ow__law_among⟩ (defBody st__law_among) = some (b__law_among K A) := by kernel_rfl
abbrev st__law_bits : Stmt := top 37
abbrev N__law_bits : List Str := ["_law_pot_here", "_law_least", "_law_most", "_law_turn"]
theorem s__law_bits : FnScope N__law_bits ["_law_pot_here", "_law_least", "_law_most"] (defScope st__law_bits) := ⟨rfl, rfl, rfl, by decide +kernel, rfl, by decide +kernel, by decide +kernel⟩
def tb__law_bits (K : PySem.W.Frag) (A : Ad) : List (Str × Gv) := [("range", .rng), ("_law_draw", .fn ["_law_pot_here", "_law_many"] [(2, [], [.p 0, .p 1])] (sp__law_draw K A)), ("_law_among", .fn ["_law_pot_here", "_law_some"] [(2, [], [.p 0, .p 1])] (sp__law_among K A))]
def cl__law_bits (K : PySem.W.Frag) (A : Ad) : List CI := []
def b__law_bits (K : PySem.W.Frag) (A : Ad) : S := .cons (.ret (.joind (.c (.str "")) (.lc (.call (sp__law_among K A) (.cons (.v 0) (.cons (.c (.str "01")) (.nil))) (.nil) [.p 0, .p 1]) (.v 3) (.rng1 (.cons (.bin .Add (.v 1) (.call (sp__law_draw K A) (.cons (.v 0) (.cons (.bin .Add (.bin .Sub (.v 2) (.v 1)) (.c (.int 1))) (.nil))) (.nil) [.p 0, .p 1])) (.nil))) (.nil) [3]))) (.nil)
def hk__law_bits : List (Nat × Nat) := []
def ow__law_bits : List (Nat × Nat × Nat) := []
theorem c__law_bits (K : PySem.W.Frag) (A : Ad) : compSs 40 ⟨N__law_bits, defScope st__law_bits, fun _ => true, tb__law_bits K A, hk__law_bits, cl__law_bits K A, ow__law_bits⟩ (defBody st__law_bits) = some (b__law_bits K A) := by kernel_rfl
abbrev st__law_turned : Stmt := top 38
abbrev N__law_turned : List Str := ["_law_part"]
theorem s__law_turned : FnScope N__law_turned ["_law_part"] (defScope st__law_turned) := ⟨rfl, rfl, rfl, by decide +kernel, rfl, by decide +kernel, by decide +kernel⟩
def tb__law_turned (K : PySem.W.Frag) (A : Ad) : List (Str × Gv) := []
def cl__law_turned (K : PySem.W.Frag) (A : Ad) : List CI := []
def b__law_turned (K : PySem.W.Frag) (A : Ad) : S := .cons (.ret (.bin .Add (.slc (.v 0) (.nil) (.cons (.un .USub (.c (.int 1))) .nil)) (.sub (.dct (.cons (.c (.str "0")) (.cons (.c (.str "1")) (.nil))) (.cons (.c (.str "1")) (.cons (.c (.str "0")) (.nil)))) (.sub (.v 0) (.un .USub (.c (.int 1))))))) (.nil)
def hk__law_turned : List (Nat × Nat) := []
def ow__law_turned : List (Nat × Nat × Nat) := []
theorem c__law_turned (K : PySem.W.Frag) (A : Ad) : compSs 40 ⟨N__law_turned, defScope st__law_turned, fun _ => true, tb__law_turned K A, hk__law_turned, cl__law_turned K A, ow__law_turned⟩ (defBody st__law_turned) = some (b__law_turned K A) := by kernel_rfl
abbrev st__law_parts : Stmt := top 39
abbrev N__law_parts : List Str := ["_law_pot_here", "_law_span", "_law_line", "_law_found", "_law_turn", "_law_at", "_law_way", "_law_part", "_law_fresh", "_law_near"]
theorem s__law_parts : FnScope N__law_parts ["_law_pot_here", "_law_span"] (defScope st__law_parts) := ⟨rfl, rfl, rfl, by decide +kernel, rfl, by decide +kernel, by decide +kernel⟩
def tb__law_parts (K : PySem.W.Frag) (A : Ad) : List (Str × Gv) := [("_law_bits", .fn ["_law_pot_here", "_law_least", "_law_most"] [(3, [], [.p 0, .p 1, .p 2])] (sp__law_bits K A)), ("range", .rng), ("_law_among", .fn ["_law_pot_here", "_law_some"] [(2, [], [.p 0, .p 1])] (sp__law_among K A)), ("_law_draw", .fn ["_law_pot_here", "_law_many"] [(2, [], [.p 0, .p 1])] (sp__law_draw K A)), ("_law_turned", .fn ["_law_part"] [(1, [], [.p 0])] (sp__law_turned K A)), ("min", .bi .min), ("len", .bi .len)]
def cl__law_parts (K : PySem.W.Frag) (A : Ad) : List CI := []
def b__law_parts (K : PySem.W.Frag) (A : Ad) : S := .cons (.set (.tup (.cons (.v 2) (.cons (.v 3) (.nil)))) (.tup (.cons (.call (sp__law_bits K A) (.cons (.v 0) (.cons (.v 1) (.cons (.v 1) (.nil)))) (.nil) [.p 0, .p 1, .p 2]) (.cons (.lst (.nil)) (.nil))))) (.cons (.for_ (.v 4) (.rng1 (.cons (.call (sp__law_among K A) (.cons (.v 0) (.cons (.lst (.cons (.c (.int 0)) (.cons (.c (.int 1)) (.cons (.c (.int 5)) (.cons (.c (.int 20)) (.cons (.c (.int 40)) (.cons (.c (.int 40)) (.nil)))))))) (.nil))) (.nil) [.p 0, .p 1]) (.nil))) (.cons (.par [5, 6] (.cons (.call (sp__law_draw K A) (.cons (.v 0) (.cons (.bin .Add (.v 1) (.c (.int 1))) (.nil))) (.nil) [.p 0, .p 1]) (.cons (.call (sp__law_draw K A) (.cons (.v 0) (.cons (.c (.int 5)) (.nil))) (.nil) [.p 0, .p 1]) (.nil)))) (.cons (.set (.v 7) (.slc (.v 2) (.nil) (.cons (.v 5) .nil))) (.cons (.ite (.and (.cmp .Eq (.v 6) (.c (.int 1))) (.cmp .NotEq (.v 7) (.c (.str "")))) (.cons (.set (.v 7) (.call (sp__law_turned K A) (.cons (.v 7) (.nil)) (.nil) [.p 0])) (.nil)) (.cons (.ite (.cmp .Eq (.v 6) (.c (.int 2))) (.cons (.set (.v 7) (.bin .Add (.v 7) (.call (sp__law_bits K A) (.cons (.v 0) (.cons (.c (.int 0)) (.cons (.bin .Sub (.v 1) (.v 5)) (.nil)))) (.nil) [.p 0, .p 1, .p 2]))) (.nil)) (.cons (.ite (.cmp .Eq (.v 6) (.c (.int 3))) (.cons (.set (.v 7) (.call (sp__law_bits K A) (.cons (.v 0) (.cons (.c (.int 0)) (.cons (.c (.int 6)) (.nil)))) (.nil) [.p 0, .p 1, .p 2])) (.nil)) (.cons (.ite (.cmp .Eq (.v 6) (.c (.int 4))) (.cons (.set (.v 7) (.slc (.v 2) (.nil) (.cons (.bi .min (.cons (.v 1) (.cons (.bi .len (.cons (.v 3) (.nil))) (.nil)))) .nil))) (.nil)) (.nil)) (.nil))) (.nil))) (.nil))) (.cons (.set (.v 8) (.bin .Add (.lst (.cons (.v 7) (.nil))) (.lc (.slc (.v 2) (.nil) (.cons (.v 9) .nil)) (.v 9) (.rng1 (.cons (.bin .Add (.v 1) (.c (.int 1))) (.nil))) (.nil) [9]))) (.cons (.ex (.mt .extend (.v 8) (.cons (.lc (.call (sp__law_turned K A) (.cons (.slc (.v 2) (.nil) (.cons (.v 9) .nil)) (.nil)) (.nil) [.p 0]) (.v 9) (.rng2 (.cons (.c (.int 1)) (.cons (.bin .Add (.v 1) (.c (.int 1))) (.nil)))) (.nil) [9]) (.nil)))) (.cons (.ex (.mt .append (.v 3) (.cons (.sub (.lc (.v 9) (.v 9) (.v 8) (.cons (.cmp .NotIn (.v 9) (.v 3)) .nil) [9]) (.c (.int 0))) (.nil)))) (.nil)))))))) (.cons (.ret (.tup (.cons (.v 2) (.cons (.v 3) (.nil))))) (.nil)))
def hk__law_parts : List (Nat × Nat) := []
def ow__law_parts : List (Nat × Nat × Nat) := []
theorem c__law_parts (K : PySem.W.Frag) (A : Ad) : compSs 40 ⟨N__law_parts, defScope st__law_parts, fun _ => true, tb__law_parts K A, hk__law_parts, cl__law_parts K A, ow__law_parts⟩ (defBody st__law_parts) = some (b__law_parts K A) := by kernel_rfl
abbrev st_is_integer : Stmt := top 19
abbrev N_is_integer : List Str := ["value"]
theorem s_is_integer : FnScope N_is_integer ["value"] (defScope st_is_integer) := ⟨rfl, rfl, rfl, by decide +kernel, rfl, by decide +kernel, by decide +kernel⟩
def tb_is_integer (K : PySem.W.Frag) (A : Ad) : List (Str × Gv) := [("isinstance", .isi), ("int", .ty .int (some .int)), ("bool", .ty .bool (none))]
def cl_is_integer (K : PySem.W.Frag) (A : Ad) : List CI := []
def b_is_integer (K : PySem.W.Frag) (A : Ad) : S := .cons (.ret (.and (.isA (.v 0) [.int]) (.not (.isA (.v 0) [.bool])))) (.nil)
def hk_is_integer : List (Nat × Nat) := []
def ow_is_integer : List (Nat × Nat × Nat) := []
theorem c_is_integer (K : PySem.W.Frag) (A : Ad) : compSs 40 ⟨N_is_integer, defScope st_is_integer, fun _ => true, tb_is_integer K A, hk_is_integer, cl_is_integer K A, ow_is_integer⟩ (defBody st_is_integer) = some (b_is_integer K A) := by kernel_rfl
abbrev st_is_width : Stmt := top 20
abbrev N_is_width : List Str := ["value"]
theorem s_is_width : FnScope N_is_width ["value"] (defScope st_is_width) := ⟨rfl, rfl, rfl, by decide +kernel, rfl, by decide +kernel, by decide +kernel⟩
def tb_is_width (K : PySem.W.Frag) (A : Ad) : List (Str × Gv) := [("is_integer", .fn ["value"] [(1, [], [.p 0])] (sp_is_integer K A)), ("MOST_WIDTH", .con (.int 100))]
def cl_is_width (K : PySem.W.Frag) (A : Ad) : List CI := []
def b_is_width (K : PySem.W.Frag) (A : Ad) : S := .cons (.ret (.and (.call (sp_is_integer K A) (.cons (.v 0) (.nil)) (.nil) [.p 0]) (.cmp2 .LtE .LtE (.c (.int 1)) (.v 0) (.c (.int 100))))) (.nil)
def hk_is_width : List (Nat × Nat) := []
def ow_is_width : List (Nat × Nat × Nat) := []
theorem c_is_width (K : PySem.W.Frag) (A : Ad) : compSs 40 ⟨N_is_width, defScope st_is_width, fun _ => true, tb_is_width K A, hk_is_width, cl_is_width K A, ow_is_width⟩ (defBody st_is_width) = some (b_is_width K A) := by kernel_rfl
abbrev st_want_width : Stmt := top 26
abbrev N_want_width : List Str := ["width"]
theorem s_want_width : FnScope N_want_width ["width"] (defScope st_want_width) := ⟨rfl, rfl, rfl, by decide +kernel, rfl, by decide +kernel, by decide +kernel⟩
def tb_want_width (K : PySem.W.Frag) (A : Ad) : List (Str × Gv) := [("is_width", .fn ["value"] [(1, [], [.p 0])] (sp_is_width K A))]
def cl_want_width (K : PySem.W.Frag) (A : Ad) : List CI := []
def b_want_width (K : PySem.W.Frag) (A : Ad) : S := .cons (.ite (.not (.call (sp_is_width K A) (.cons (.v 0) (.nil)) (.nil) [.p 0])) (.cons (.bad) (.nil)) (.nil)) (.nil)
def hk_want_width : List (Nat × Nat) := []
def ow_want_width : List (Nat × Nat × Nat) := []
theorem c_want_width (K : PySem.W.Frag) (A : Ad) : compSs 40 ⟨N_want_width, defScope st_want_width, fun _ => true, tb_want_width K A, hk_want_width, cl_want_width K A, ow_want_width⟩ (defBody st_want_width) = some (b_want_width K A) := by kernel_rfl
abbrev st_is_bits : Stmt := top 21
abbrev N_is_bits : List Str := ["value", "sign"]
theorem s_is_bits : FnScope N_is_bits ["value"] (defScope st_is_bits) := ⟨rfl, rfl, rfl, by decide +kernel, rfl, by decide +kernel, by decide +kernel⟩
def tb_is_bits (K : PySem.W.Frag) (A : Ad) : List (Str × Gv) := [("isinstance", .isi), ("str", .ty .str (some .str)), ("all", .bi .all)]
def cl_is_bits (K : PySem.W.Frag) (A : Ad) : List CI := []
def b_is_bits (K : PySem.W.Frag) (A : Ad) : S := .cons (.ret (.and (.isA (.v 0) [.str]) (.bid .all (.lc (.inT false (.v 1) (.cons (.c (.str "0")) (.cons (.c (.str "1")) (.nil)))) (.v 1) (.v 0) (.nil) [1])))) (.nil)
def hk_is_bits : List (Nat × Nat) := []
def ow_is_bits : List (Nat × Nat × Nat) := []
theorem c_is_bits (K : PySem.W.Frag) (A : Ad) : compSs 40 ⟨N_is_bits, defScope st_is_bits, fun _ => true, tb_is_bits K A, hk_is_bits, cl_is_bits K A, ow_is_bits⟩ (defBody st_is_bits) = some (b_is_bits K A) := by kernel_rfl
abbrev st_is_stretch : Stmt := top 25
abbrev N_is_stretch : List Str := ["width", "value"]
theorem s_is_stretch : FnScope N_is_stretch ["width", "value"] (defScope st_is_stretch) := ⟨rfl, rfl, rfl, by decide +kernel, rfl, by decide +kernel, by decide +kernel⟩
def tb_is_stretch (K : PySem.W.Frag) (A : Ad) : List (Str × Gv) := [("want_width", .fn ["width"] [(1, [], [.p 0])] (sp_want_width K A)), ("is_bits", .fn ["value"] [(1, [], [.p 0])] (sp_is_bits K A)), ("len", .bi .len)]
def cl_is_stretch (K : PySem.W.Frag) (A : Ad) : List CI := []
def b_is_stretch (K : PySem.W.Frag) (A : Ad) : S := .cons (.ex (.call (sp_want_width K A) (.cons (.v 0) (.nil)) (.nil) [.p 0])) (.cons (.ret (.and (.call (sp_is_bits K A) (.cons (.v 1) (.nil)) (.nil) [.p 0]) (.cmp .LtE (.bi .len (.cons (.v 1) (.nil))) (.v 0)))) (.nil))
def hk_is_stretch : List (Nat × Nat) := []
def ow_is_stretch : List (Nat × Nat × Nat) := []
theorem c_is_stretch (K : PySem.W.Frag) (A : Ad) : compSs 40 ⟨N_is_stretch, defScope st_is_stretch, fun _ => true, tb_is_stretch K A, hk_is_stretch, cl_is_stretch K A, ow_is_stretch⟩ (defBody st_is_stretch) = some (b_is_stretch K A) := by kernel_rfl
abbrev st_is_name : Stmt := top 22
abbrev N_is_name : List Str := ["value", "sign"]
theorem s_is_name : FnScope N_is_name ["value"] (defScope st_is_name) := ⟨rfl, rfl, rfl, by decide +kernel, rfl, by decide +kernel, by decide +kernel⟩
def tb_is_name (K : PySem.W.Frag) (A : Ad) : List (Str × Gv) := [("isinstance", .isi), ("str", .ty .str (some .str)), ("len", .bi .len), ("LONGEST_NAME", .con (.int 6)), ("all", .bi .all), ("LETTERS", .con (.str "abcdefghijklmnopqrstuvwxyz")), ("KEPT_WORDS", .con (.ref A.KEPT_WORDS))]
def cl_is_name (K : PySem.W.Frag) (A : Ad) : List CI := []
def b_is_name (K : PySem.W.Frag) (A : Ad) : S := .cons (.ite (.or (.not (.isA (.v 0) [.str])) (.not (.cmp2 .LtE .LtE (.c (.int 1)) (.bi .len (.cons (.v 0) (.nil))) (.c (.int 6))))) (.cons (.ret (.c (.bl false))) (.nil)) (.nil)) (.cons (.ret (.and (.bid .all (.lc (.cmp .In (.v 1) (.c (.str "abcdefghijklmnopqrstuvwxyz"))) (.v 1) (.v 0) (.nil) [1])) (.cmp .NotIn (.v 0) (.c (.ref A.KEPT_WORDS))))) (.nil))
def hk_is_name : List (Nat × Nat) := []
def ow_is_name : List (Nat × Nat × Nat) := []
theorem c_is_name (K : PySem.W.Frag) (A : Ad) : compSs 40 ⟨N_is_name, defScope st_is_name, fun _ => true, tb_is_name K A, hk_is_name, cl_is_name K A, ow_is_name⟩ (defBody st_is_name) = some (b_is_name K A) := by kernel_rfl
abbrev st_is_goal : Stmt := top 23
abbrev N_is_goal : List Str := ["value"]
theorem s_is_goal : FnScope N_is_goal ["value"] (defScope st_is_goal) := ⟨rfl, rfl, rfl, by decide +kernel, rfl, by decide +kernel, by decide +kernel⟩
def tb_is_goal (K : PySem.W.Frag) (A : Ad) : List (Str × Gv) := [("is_name", .fn ["value"] [(1, [], [.p 0])] (sp_is_name K A)), ("isinstance", .isi), ("str", .ty .str (some .str)), ("HOLE", .con (.str "hole")), ("HOME", .con (.str "home"))]
def cl_is_goal (K : PySem.W.Frag) (A : Ad) : List CI := []
def b_is_goal (K : PySem.W.Frag) (A : Ad) : S := .cons (.ret (.or (.call (sp_is_name K A) (.cons (.v 0) (.nil)) (.nil) [.p 0]) (.and (.isA (.v 0) [.str]) (.inT false (.v 0) (.cons (.c (.str "home")) (.cons (.c (.str "hole")) (.nil))))))) (.nil)
def hk_is_goal : List (Nat × Nat) := []
def ow_is_goal : List (Nat × Nat × Nat) := []
theorem c_is_goal (K : PySem.W.Frag) (A : Ad) : compSs 40 ⟨N_is_goal, defScope st_is_goal, fun _ => true, tb_is_goal K A, hk_is_goal, cl_is_goal K A, ow_is_goal⟩ (defBody st_is_goal) = some (b_is_goal K A) := by kernel_rfl
abbrev st_is_row : Stmt := top 30
abbrev N_is_row : List Str := ["width", "value"]
theorem s_is_row : FnScope N_is_row ["width", "value"] (defScope st_is_row) := ⟨rfl, rfl, rfl, by decide +kernel, rfl, by decide +kernel, by decide +kernel⟩
def tb_is_row (K : PySem.W.Frag) (A : Ad) : List (Str × Gv) := [("isinstance", .isi), ("tuple", .ty .tuple (some .tuple)), ("len", .bi .len), ("is_stretch", .fn ["width", "value"] [(2, [], [.p 0, .p 1])] (sp_is_stretch K A)), ("is_goal", .fn ["value"] [(1, [], [.p 0])] (sp_is_goal K A))]
def cl_is_row (K : PySem.W.Frag) (A : Ad) : List CI := []
def b_is_row (K : PySem.W.Frag) (A : Ad) : S := .cons (.ite (.or (.not (.isA (.v 1) [.tuple])) (.cmp .NotEq (.bi .len (.cons (.v 1) (.nil))) (.c (.int 2)))) (.cons (.ret (.c (.bl false))) (.nil)) (.nil)) (.cons (.ret (.and (.call (sp_is_stretch K A) (.cons (.v 0) (.cons (.sub (.v 1) (.c (.int 0))) (.nil))) (.nil) [.p 0, .p 1]) (.call (sp_is_goal K A) (.cons (.sub (.v 1) (.c (.int 1))) (.nil)) (.nil) [.p 0]))) (.nil))
def hk_is_row : List (Nat × Nat) := []
def ow_is_row : List (Nat × Nat × Nat) := []
theorem c_is_row (K : PySem.W.Frag) (A : Ad) : compSs 40 ⟨N_is_row, defScope st_is_row, fun _ => true, tb_is_row K A, hk_is_row, cl_is_row K A, ow_is_row⟩ (defBody st_is_row) = some (b_is_row K A) := by kernel_rfl
abbrev st_are_rows : Stmt := top 31
abbrev N_are_rows : List Str := ["width", "value", "row"]
theorem s_are_rows : FnScope N_are_rows ["width", "value"] (defScope st_are_rows) := ⟨rfl, rfl, rfl, by decide +kernel, rfl, by decide +kernel, by decide +kernel⟩
def tb_are_rows (K : PySem.W.Frag) (A : Ad) : List (Str × Gv) := [("isinstance", .isi), ("dict", .ty .dict (none)), ("all", .bi .all), ("is_row", .fn ["width", "value"] [(2, [], [.p 0, .p 1])] (sp_is_row K A))]
def cl_are_rows (K : PySem.W.Frag) (A : Ad) : List CI := []
def b_are_rows (K : PySem.W.Frag) (A : Ad) : S := .cons (.ret (.and (.isA (.v 1) [.dict]) (.bid .all (.lkE (.lc (.call (sp_is_row K A) (.cons (.v 0) (.cons (.v 2) (.nil))) (.nil) [.p 0, .p 1]) (.v 2) (.items (.v 1)) (.nil) [2]))))) (.nil)
def hk_are_rows : List (Nat × Nat) := []
def ow_are_rows : List (Nat × Nat × Nat) := []
theorem c_are_rows (K : PySem.W.Frag) (A : Ad) : compSs 40 ⟨N_are_rows, defScope st_are_rows, fun _ => true, tb_are_rows K A, hk_are_rows, cl_are_rows K A, ow_are_rows⟩ (defBody st_are_rows) = some (b_are_rows K A) := by kernel_rfl
abbrev st_Table___init__ : Stmt := inner (top 32) 1
abbrev N_Table___init__ : List Str := ["self", "width", "rows", "given", "sizes", "stretch"]
theorem s_Table___init__ : FnScope N_Table___init__ ["self", "width", "rows"] (defScope st_Table___init__) := ⟨rfl, rfl, rfl, by decide +kernel, rfl, by decide +kernel, by decide +kernel⟩
def tb_Table___init__ (K : PySem.W.Frag) (A : Ad) : List (Str × Gv) := [("want_width", .fn ["width"] [(1, [], [.p 0])] (sp_want_width K A)), ("are_rows", .fn ["width", "value"] [(2, [], [.p 0, .p 1])] (sp_are_rows K A)), ("len", .bi .len), ("sorted", .bi .sorted)]
def cl_Table___init__ (K : PySem.W.Frag) (A : Ad) : List CI := [⟨A.Table, none, [], [], [("MOST_ROWS", (.int 40))], ["own_width", "own_rows", "own_sizes"]⟩]
def b_Table___init__ (K : PySem.W.Frag) (A : Ad) : S := .cons (.ex (.call (sp_want_width K A) (.cons (.v 1) (.nil)) (.nil) [.p 0])) (.cons (.set (.v 3) (.ite (.cmp .Is (.v 2) (.c .non)) (.dct (.nil) (.nil)) (.v 2))) (.cons (.ite (.not (.call (sp_are_rows K A) (.cons (.v 1) (.cons (.v 3) (.nil))) (.nil) [.p 0, .p 1])) (.cons (.bad) (.nil)) (.nil)) (.cons (.ite (.cmp .Gt (.bi .len (.cons (.v 3) (.nil))) (.own (.att [] [] [(A.Table, (.int 40))] "MOST_ROWS") (.v 0) .nil .nil)) (.cons (.bad) (.nil)) (.nil)) (.cons (.fld "own_width" (.v 0) (.v 1)) (.cons (.fld "own_rows" (.v 0) (.dc (.v 5) (.sub (.v 3) (.v 5)) (.v 5) (.it (.bi .sorted (.cons (.v 3) (.nil)))) (.nil) [5])) (.cons (.set (.v 4) (.lkE (.dc (.bi .len (.cons (.v 5) (.nil))) (.c (.bl true)) (.v 5) (.kd (.v 3)) (.nil) [5]))) (.cons (.fld "own_sizes" (.v 0) (.own .srev (.v 4) .nil .nil)) (.nil))))))))
def hk_Table___init__ : List (Nat × Nat) := [(98, 51)]
def ow_Table___init__ : List (Nat × Nat × Nat) := []
theorem c_Table___init__ (K : PySem.W.Frag) (A : Ad) : compSs 40 ⟨N_Table___init__, defScope st_Table___init__, fun _ => true, tb_Table___init__ K A, hk_Table___init__, cl_Table___init__ K A, ow_Table___init__⟩ (defBody st_Table___init__) = some (b_Table___init__ K A) := by kernel_rfl
abbrev st_Table___len__ : Stmt := inner (top 32) 12
abbrev N_Table___len__ : List Str := ["self"]
theorem s_Table___len__ : FnScope N_Table___len__ ["self"] (defScope st_Table___len__) := ⟨rfl, rfl, rfl, by decide +kernel, rfl, by decide +kernel, by decide +kernel⟩
def tb_Table___len__ (K : PySem.W.Frag) (A : Ad) : List (Str × Gv) := [("len", .bi .len)]
def cl_Table___len__ (K : PySem.W.Frag) (A : Ad) : List CI := [⟨A.Table, none, [], [], [], ["own_rows"]⟩]
def b_Table___len__ (K : PySem.W.Frag) (A : Ad) : S := .cons (.ret (.bi .len (.cons (.own (.att [A.Table] [] [] "own_rows") (.v 0) .nil .nil) (.nil)))) (.nil)
def hk_Table___len__ : List (Nat × Nat) := []
def ow_Table___len__ : List (Nat × Nat × Nat) := []
theorem c_Table___len__ (K : PySem.W.Frag) (A : Ad) : compSs 40 ⟨N_Table___len__, defScope st_Table___len__, fun _ => true, tb_Table___len__ K A, hk_Table___len__, cl_Table___len__ K A, ow_Table___len__⟩ (defBody st_Table___len__) = some (b_Table___len__ K A) := by kernel_rfl
abbrev st__law_row : Stmt := top 40
abbrev N__law_row : List Str := ["_law_model", "_law_place_here", "_law_held", "_law_at"]
theorem s__law_row : FnScope N__law_row ["_law_model", "_law_place_here"] (defScope st__law_row) := ⟨rfl, rfl, rfl, by decide +kernel, rfl, by decide +kernel, by decide +kernel⟩
def tb__law_row (K : PySem.W.Frag) (A : Ad) : List (Str × Gv) := [("range", .rng), ("len", .bi .len)]
def cl__law_row (K : PySem.W.Frag) (A : Ad) : List CI := []
def b__law_row (K : PySem.W.Frag) (A : Ad) : S := .cons (.set (.v 2) (.c .non)) (.cons (.for_ (.v 3) (.rng1 (.cons (.bin .Add (.bi .len (.cons (.v 1) (.nil))) (.c (.int 1))) (.nil))) (.cons (.ite (.cmp .In (.slc (.v 1) (.nil) (.cons (.v 3) .nil)) (.v 0)) (.cons (.set (.v 2) (.slc (.v 1) (.nil) (.cons (.v 3) .nil))) (.nil)) (.nil)) (.nil))) (.cons (.ret (.v 2)) (.nil)))
def hk__law_row : List (Nat × Nat) := []
def ow__law_row : List (Nat × Nat × Nat) := []
theorem c__law_row (K : PySem.W.Frag) (A : Ad) : compSs 40 ⟨N__law_row, defScope st__law_row, fun _ => true, tb__law_row K A, hk__law_row, cl__law_row K A, ow__law_row⟩ (defBody st__law_row) = some (b__law_row K A) := by kernel_rfl
abbrev st_is_address : Stmt := top 24
abbrev N_is_address : List Str := ["width", "value"]
theorem s_is_address : FnScope N_is_address ["width", "value"] (defScope st_is_address) := ⟨rfl, rfl, rfl, by decide +kernel, rfl, by decide +kernel, by decide +kernel⟩
def tb_is_address (K : PySem.W.Frag) (A : Ad) : List (Str × Gv) := [("want_width", .fn ["width"] [(1, [], [.p 0])] (sp_want_width K A)), ("is_bits", .fn ["value"] [(1, [], [.p 0])] (sp_is_bits K A)), ("len", .bi .len)]
def cl_is_address (K : PySem.W.Frag) (A : Ad) : List CI := []
def b_is_address (K : PySem.W.Frag) (A : Ad) : S := .cons (.ex (.call (sp_want_width K A) (.cons (.v 0) (.nil)) (.nil) [.p 0])) (.cons (.ret (.and (.call (sp_is_bits K A) (.cons (.v 1) (.nil)) (.nil) [.p 0]) (.cmp .Eq (.bi .len (.cons (.v 1) (.nil))) (.v 0)))) (.nil))
def hk_is_address : List (Nat × Nat) := []
def ow_is_address : List (Nat × Nat × Nat) := []
theorem c_is_address (K : PySem.W.Frag) (A : Ad) : compSs 40 ⟨N_is_address, defScope st_is_address, fun _ => true, tb_is_address K A, hk_is_address, cl_is_address K A, ow_is_address⟩ (defBody st_is_address) = some (b_is_address K A) := by kernel_rfl
abbrev st_want_address : Stmt := top 27
abbrev N_want_address : List Str := ["width", "value"]
theorem s_want_address : FnScope N_want_address ["width", "value"] (defScope st_want_address) := ⟨rfl, rfl, rfl, by decide +kernel, rfl, by decide +kernel, by decide +kernel⟩
def tb_want_address (K : PySem.W.Frag) (A : Ad) : List (Str × Gv) := [("is_address", .fn ["width", "value"] [(2, [], [.p 0, .p 1])] (sp_is_address K A))]
def cl_want_address (K : PySem.W.Frag) (A : Ad) : List CI := []
def b_want_address (K : PySem.W.Frag) (A : Ad) : S := .cons (.ite (.not (.call (sp_is_address K A) (.cons (.v 0) (.cons (.v 1) (.nil))) (.nil) [.p 0, .p 1])) (.cons (.bad) (.nil)) (.nil)) (.nil)
def hk_want_address : List (Nat × Nat) := []
def ow_want_address : List (Nat × Nat × Nat) := []
theorem c_want_address (K : PySem.W.Frag) (A : Ad) : compSs 40 ⟨N_want_address, defScope st_want_address, fun _ => true, tb_want_address K A, hk_want_address, cl_want_address K A, ow_want_address⟩ (defBody st_want_address) = some (b_want_address K A) := by kernel_rfl
abbrev st_Table_row_of : Stmt := inner (top 32) 5
abbrev N_Table_row_of : List Str := ["self", "address", "size"]
theorem s_Table_row_of : FnScope N_Table_row_of ["self", "address"] (defScope st_Table_row_of) := ⟨rfl, rfl, rfl, by decide +kernel, rfl, by decide +kernel, by decide +kernel⟩
def tb_Table_row_of (K : PySem.W.Frag) (A : Ad) : List (Str × Gv) := []
def cl_Table_row_of (K : PySem.W.Frag) (A : Ad) : List CI := [⟨A.Table, none, [], [], [], ["own_sizes", "own_rows"]⟩]
def b_Table_row_of (K : PySem.W.Frag) (A : Ad) : S := .cons (.for_ (.v 2) (.it (.own (.att [A.Table] [] [] "own_sizes") (.v 0) .nil .nil)) (.cons (.ite (.cmp .In (.slc (.v 1) (.nil) (.cons (.v 2) .nil)) (.own (.att [A.Table] [] [] "own_rows") (.v 0) .nil .nil)) (.cons (.ret (.slc (.v 1) (.nil) (.cons (.v 2) .nil))) (.nil)) (.nil)) (.nil))) (.cons (.ret (.c .non)) (.nil))
def hk_Table_row_of : List (Nat × Nat) := []
def ow_Table_row_of : List (Nat × Nat × Nat) := []
theorem c_Table_row_of (K : PySem.W.Frag) (A : Ad) : compSs 40 ⟨N_Table_row_of, defScope st_Table_row_of, fun _ => true, tb_Table_row_of K A, hk_Table_row_of, cl_Table_row_of K A, ow_Table_row_of⟩ (defBody st_Table_row_of) = some (b_Table_row_of K A) := by kernel_rfl
abbrev st_Table_goal_of : Stmt := inner (top 32) 6
abbrev N_Table_goal_of : List Str := ["self", "address", "stretch"]
theorem s_Table_goal_of : FnScope N_Table_goal_of ["self", "address"] (defScope st_Table_goal_of) := ⟨rfl, rfl, rfl, by decide +kernel, rfl, by decide +kernel, by decide +kernel⟩
def tb_Table_goal_of (K : PySem.W.Frag) (A : Ad) : List (Str × Gv) := [("HOLE", .con (.str "hole"))]
def cl_Table_goal_of (K : PySem.W.Frag) (A : Ad) : List CI := [⟨A.Table, none, [("row_of", ⟨["self", "address"], [(2, [], [.p 0, .p 1])], sp_Table_row_of K A⟩)], [], [], ["own_rows"]⟩]
def b_Table_goal_of (K : PySem.W.Frag) (A : Ad) : S := .cons (.set (.v 2) (.own (.meth [(A.Table, sp_Table_row_of K A, [.p 0, .p 1])] "row_of") (.v 0) (.cons (.v 1) (.nil)) (.nil))) (.cons (.ret (.ite (.cmp .Is (.v 2) (.c .non)) (.c (.str "hole")) (.sub (.own (.att [A.Table] [] [] "own_rows") (.v 0) .nil .nil) (.v 2)))) (.nil))
def hk_Table_goal_of : List (Nat × Nat) := []
def ow_Table_goal_of : List (Nat × Nat × Nat) := []
theorem c_Table_goal_of (K : PySem.W.Frag) (A : Ad) : compSs 40 ⟨N_Table_goal_of, defScope st_Table_goal_of, fun _ => true, tb_Table_goal_of K A, hk_Table_goal_of, cl_Table_goal_of K A, ow_Table_goal_of⟩ (defBody st_Table_goal_of) = some (b_Table_goal_of K A) := by kernel_rfl
abbrev st_Table___call__ : Stmt := inner (top 32) 8
abbrev N_Table___call__ : List Str := ["self", "address"]
theorem s_Table___call__ : FnScope N_Table___call__ ["self", "address"] (defScope st_Table___call__) := ⟨rfl, rfl, rfl, by decide +kernel, rfl, by decide +kernel, by decide +kernel⟩
def tb_Table___call__ (K : PySem.W.Frag) (A : Ad) : List (Str × Gv) := [("want_address", .fn ["width", "value"] [(2, [], [.p 0, .p 1])] (sp_want_address K A))]
def cl_Table___call__ (K : PySem.W.Frag) (A : Ad) : List CI := [⟨A.Table, none, [("goal_of", ⟨["self", "address"], [(2, [], [.p 0, .p 1])], sp_Table_goal_of K A⟩)], [], [], ["own_width"]⟩]
def b_Table___call__ (K : PySem.W.Frag) (A : Ad) : S := .cons (.ex (.call (sp_want_address K A) (.cons (.own (.att [A.Table] [] [] "own_width") (.v 0) .nil .nil) (.cons (.v 1) (.nil))) (.nil) [.p 0, .p 1])) (.cons (.ret (.own (.meth [(A.Table, sp_Table_goal_of K A, [.p 0, .p 1])] "goal_of") (.v 0) (.cons (.v 1) (.nil)) (.nil))) (.nil))
def hk_Table___call__ : List (Nat × Nat) := []
def ow_Table___call__ : List (Nat × Nat × Nat) := []
theorem c_Table___call__ (K : PySem.W.Frag) (A : Ad) : compSs 40 ⟨N_Table___call__, defScope st_Table___call__, fun _ => true, tb_Table___call__ K A, hk_Table___call__, cl_Table___call__ K A, ow_Table___call__⟩ (defBody st_Table___call__) = some (b_Table___call__ K A) := by kernel_rfl
abbrev st_Table_row : Stmt := inner (top 32) 7
abbrev N_Table_row : List Str := ["self", "address"]
theorem s_Table_row : FnScope N_Table_row ["self", "address"] (defScope st_Table_row) := ⟨rfl, rfl, rfl, by decide +kernel, rfl, by decide +kernel, by decide +kernel⟩
def tb_Table_row (K : PySem.W.Frag) (A : Ad) : List (Str × Gv) := [("want_address", .fn ["width", "value"] [(2, [], [.p 0, .p 1])] (sp_want_address K A))]
def cl_Table_row (K : PySem.W.Frag) (A : Ad) : List CI := [⟨A.Table, none, [("row_of", ⟨["self", "address"], [(2, [], [.p 0, .p 1])], sp_Table_row_of K A⟩)], [], [], ["own_width"]⟩]
def b_Table_row (K : PySem.W.Frag) (A : Ad) : S := .cons (.ex (.call (sp_want_address K A) (.cons (.own (.att [A.Table] [] [] "own_width") (.v 0) .nil .nil) (.cons (.v 1) (.nil))) (.nil) [.p 0, .p 1])) (.cons (.ret (.own (.meth [(A.Table, sp_Table_row_of K A, [.p 0, .p 1])] "row_of") (.v 0) (.cons (.v 1) (.nil)) (.nil))) (.nil))
def hk_Table_row : List (Nat × Nat) := []
def ow_Table_row : List (Nat × Nat × Nat) := []
theorem c_Table_row (K : PySem.W.Frag) (A : Ad) : compSs 40 ⟨N_Table_row, defScope st_Table_row, fun _ => true, tb_Table_row K A, hk_Table_row, cl_Table_row K A, ow_Table_row⟩ (defBody st_Table_row) = some (b_Table_row K A) := by kernel_rfl
abbrev st__law_is_right : Stmt := top 42
abbrev N__law_is_right : List Str := ["_law_made", "_law_model", "_law_place_here", "_law_held"]
theorem s__law_is_right : FnScope N__law_is_right ["_law_made", "_law_model", "_law_place_here"] (defScope st__law_is_right) := ⟨rfl, rfl, rfl, by decide +kernel, rfl, by decide +kernel, by decide +kernel⟩
def tb__law_is_right (K : PySem.W.Frag) (A : Ad) : List (Str × Gv) := [("_law_row", .fn ["_law_model", "_law_place_here"] [(2, [], [.p 0, .p 1])] (sp__law_row K A)), ("repr", .bi .repr)]
def cl__law_is_right (K : PySem.W.Frag) (A : Ad) : List CI := [⟨A.Table, none, [("__call__", ⟨["self", "address"], [(2, [], [.p 0, .p 1])], sp_Table___call__ K A⟩), ("row", ⟨["self", "address"], [(2, [], [.p 0, .p 1])], sp_Table_row K A⟩)], [], [], []⟩]
def b__law_is_right (K : PySem.W.Frag) (A : Ad) : S := .cons (.set (.v 3) (.call (sp__law_row K A) (.cons (.v 1) (.cons (.v 2) (.nil))) (.nil) [.p 0, .p 1])) (.cons (.ret (.cmp .Eq (.bi .repr (.cons (.lst (.cons (.own (.meth [(A.Table, sp_Table_row K A, [.p 0, .p 1])] "row") (.v 0) (.cons (.v 2) (.nil)) (.nil)) (.cons (.own (.call [(A.Table, sp_Table___call__ K A, [.p 0, .p 1])]) (.v 0) (.cons (.v 2) (.nil)) (.nil)) (.nil)))) (.nil))) (.bi .repr (.cons (.lst (.cons (.v 3) (.cons (.ite (.cmp .Is (.v 3) (.c .non)) (.c (.str "hole")) (.sub (.v 1) (.v 3))) (.nil)))) (.nil))))) (.nil))
def hk__law_is_right : List (Nat × Nat) := []
def ow__law_is_right : List (Nat × Nat × Nat) := []
theorem c__law_is_right (K : PySem.W.Frag) (A : Ad) : compSs 40 ⟨N__law_is_right, defScope st__law_is_right, fun _ => true, tb__law_is_right K A, hk__law_is_right, cl__law_is_right K A, ow__law_is_right⟩ (defBody st__law_is_right) = some (b__law_is_right K A) := by kernel_rfl
abbrev st__law_place : Stmt := top 41
abbrev N__law_place : List Str := ["_law_pot_here", "_law_span", "_law_line", "_law_parts_here", "_law_way", "_law_part", "_law_at"]
theorem s__law_place : FnScope N__law_place ["_law_pot_here", "_law_span", "_law_line", "_law_parts_here"] (defScope st__law_place) := ⟨rfl, rfl, rfl, by decide +kernel, rfl, by decide +kernel, by decide +kernel⟩
def tb__law_place (K : PySem.W.Frag) (A : Ad) : List (Str × Gv) := [("_law_draw", .fn ["_law_pot_here", "_law_many"] [(2, [], [.p 0, .p 1])] (sp__law_draw K A)), ("_law_bits", .fn ["_law_pot_here", "_law_least", "_law_most"] [(3, [], [.p 0, .p 1, .p 2])] (sp__law_bits K A)), ("_law_among", .fn ["_law_pot_here", "_law_some"] [(2, [], [.p 0, .p 1])] (sp__law_among K A)), ("len", .bi .len), ("_law_turned", .fn ["_law_part"] [(1, [], [.p 0])] (sp__law_turned K A))]
def cl__law_place (K : PySem.W.Frag) (A : Ad) : List CI := []
def b__law_place (K : PySem.W.Frag) (A : Ad) : S := .cons (.set (.v 4) (.call (sp__law_draw K A) (.cons (.v 0) (.cons (.c (.int 4)) (.nil))) (.nil) [.p 0, .p 1])) (.cons (.ite (.or (.cmp .Eq (.v 4) (.c (.int 0))) (.cmp .Eq (.v 3) (.lst (.nil)))) (.cons (.ret (.call (sp__law_bits K A) (.cons (.v 0) (.cons (.v 1) (.cons (.v 1) (.nil)))) (.nil) [.p 0, .p 1, .p 2])) (.nil)) (.nil)) (.cons (.set (.v 5) (.call (sp__law_among K A) (.cons (.v 0) (.cons (.v 3) (.nil))) (.nil) [.p 0, .p 1])) (.cons (.ite (.cmp .Eq (.v 4) (.c (.int 1))) (.cons (.ret (.bin .Add (.v 5) (.bin .Mult (.call (sp__law_among K A) (.cons (.v 0) (.cons (.c (.str "01")) (.nil))) (.nil) [.p 0, .p 1]) (.bin .Sub (.v 1) (.bi .len (.cons (.v 5) (.nil))))))) (.nil)) (.nil)) (.cons (.ite (.cmp .Eq (.v 4) (.c (.int 2))) (.cons (.ret (.bin .Add (.v 5) (.call (sp__law_bits K A) (.cons (.v 0) (.cons (.bin .Sub (.v 1) (.bi .len (.cons (.v 5) (.nil)))) (.cons (.bin .Sub (.v 1) (.bi .len (.cons (.v 5) (.nil)))) (.nil)))) (.nil) [.p 0, .p 1, .p 2]))) (.nil)) (.nil)) (.cons (.set (.v 6) (.call (sp__law_draw K A) (.cons (.v 0) (.cons (.v 1) (.nil))) (.nil) [.p 0, .p 1])) (.cons (.ret (.bin .Add (.bin .Add (.slc (.v 2) (.nil) (.cons (.v 6) .nil)) (.call (sp__law_turned K A) (.cons (.sub (.v 2) (.v 6)) (.nil)) (.nil) [.p 0])) (.slc (.v 2) (.cons (.bin .Add (.v 6) (.c (.int 1))) .nil) (.nil)))) (.nil)))))))
def hk__law_place : List (Nat × Nat) := []
def ow__law_place : List (Nat × Nat × Nat) := []
theorem c__law_place (K : PySem.W.Frag) (A : Ad) : compSs 40 ⟨N__law_place, defScope st__law_place, fun _ => true, tb__law_place K A, hk__law_place, cl__law_place K A, ow__law_place⟩ (defBody st__law_place) = some (b__law_place K A) := by kernel_rfl
abbrev st_Table___contains__ : Stmt := inner (top 32) 13
abbrev N_Table___contains__ : List Str := ["self", "value"]
theorem s_Table___contains__ : FnScope N_Table___contains__ ["self", "value"] (defScope st_Table___contains__) := ⟨rfl, rfl, rfl, by decide +kernel, rfl, by decide +kernel, by decide +kernel⟩
def tb_Table___contains__ (K : PySem.W.Frag) (A : Ad) : List (Str × Gv) := [("isinstance", .isi), ("str", .ty .str (some .str))]
def cl_Table___contains__ (K : PySem.W.Frag) (A : Ad) : List CI := [⟨A.Table, none, [], [], [], ["own_rows"]⟩]
def b_Table___contains__ (K : PySem.W.Frag) (A : Ad) : S := .cons (.ret (.and (.isA (.v 1) [.str]) (.cmp .In (.v 1) (.own (.att [A.Table] [] [] "own_rows") (.v 0) .nil .nil)))) (.nil)
def hk_Table___contains__ : List (Nat × Nat) := []
def ow_Table___contains__ : List (Nat × Nat × Nat) := []
theorem c_Table___contains__ (K : PySem.W.Frag) (A : Ad) : compSs 40 ⟨N_Table___contains__, defScope st_Table___contains__, fun _ => true, tb_Table___contains__ K A, hk_Table___contains__, cl_Table___contains__ K A, ow_Table___contains__⟩ (defBody st_Table___contains__) = some (b_Table___contains__ K A) := by kernel_rfl
abbrev st_Table___sub__ : Stmt := inner (top 32) 16
abbrev N_Table___sub__ : List Str := ["self", "stretch", "one", "goal"]
theorem s_Table___sub__ : FnScope N_Table___sub__ ["self", "stretch"] (defScope st_Table___sub__) := ⟨rfl, rfl, rfl, by decide +kernel, rfl, by decide +kernel, by decide +kernel⟩
def tb_Table___sub__ (K : PySem.W.Frag) (A : Ad) : List (Str × Gv) := [("Table", .cls ⟨A.Table, some ⟨["self", "width", "rows"], [(3, [], [.p 0, .p 1, .p 2])], sp_Table___init__ K A⟩, [], [], [], []⟩)]
def cl_Table___sub__ (K : PySem.W.Frag) (A : Ad) : List CI := [⟨A.Table, none, [("__contains__", ⟨["self", "value"], [(2, [], [.p 0, .p 1])], sp_Table___contains__ K A⟩)], [], [], ["own_rows", "own_width"]⟩]
def b_Table___sub__ (K : PySem.W.Frag) (A : Ad) : S := .cons (.ite (.cmpO .NotIn [(A.Table, sp_Table___contains__ K A, [.p 0, .p 1])] (.v 1) (.v 0)) (.cons (.bad) (.nil)) (.nil)) (.cons (.ret (.own (.make A.Table (sp_Table___init__ K A) [.p 0, .p 1, .p 2]) .nil (.cons (.own (.att [A.Table] [] [] "own_width") (.v 0) .nil .nil) (.cons (.lkE (.dc (.v 2) (.v 3) (.tup (.cons (.v 2) (.cons (.v 3) (.nil)))) (.items (.own (.att [A.Table] [] [] "own_rows") (.v 0) .nil .nil)) (.cons (.cmp .NotEq (.v 2) (.v 1)) .nil) [2, 3])) (.nil))) (.nil))) (.nil))
def hk_Table___sub__ : List (Nat × Nat) := []
def ow_Table___sub__ : List (Nat × Nat × Nat) := [(162, 11, 30)]
theorem c_Table___sub__ (K : PySem.W.Frag) (A : Ad) : compSs 40 ⟨N_Table___sub__, defScope st_Table___sub__, fun _ => true, tb_Table___sub__ K A, hk_Table___sub__, cl_Table___sub__ K A, ow_Table___sub__⟩ (defBody st_Table___sub__) = some (b_Table___sub__ K A) := by kernel_rfl
abbrev st_Table___add__ : Stmt := inner (top 32) 14
abbrev N_Table___add__ : List Str := ["self", "row"]
theorem s_Table___add__ : FnScope N_Table___add__ ["self", "row"] (defScope st_Table___add__) := ⟨rfl, rfl, rfl, by decide +kernel, rfl, by decide +kernel, by decide +kernel⟩
def tb_Table___add__ (K : PySem.W.Frag) (A : Ad) : List (Str × Gv) := [("is_row", .fn ["width", "value"] [(2, [], [.p 0, .p 1])] (sp_is_row K A)), ("Table", .cls ⟨A.Table, some ⟨["self", "width", "rows"], [(3, [], [.p 0, .p 1, .p 2])], sp_Table___init__ K A⟩, [], [], [], []⟩)]
def cl_Table___add__ (K : PySem.W.Frag) (A : Ad) : List CI := [⟨A.Table, none, [], [], [], ["own_width", "own_rows"]⟩]
def b_Table___add__ (K : PySem.W.Frag) (A : Ad) : S := .cons (.ite (.not (.call (sp_is_row K A) (.cons (.own (.att [A.Table] [] [] "own_width") (.v 0) .nil .nil) (.cons (.v 1) (.nil))) (.nil) [.p 0, .p 1])) (.cons (.bad) (.nil)) (.nil)) (.cons (.ret (.own (.make A.Table (sp_Table___init__ K A) [.p 0, .p 1, .p 2]) .nil (.cons (.own (.att [A.Table] [] [] "own_width") (.v 0) .nil .nil) (.cons (.own .ds1 (.own (.att [A.Table] [] [] "own_rows") (.v 0) .nil .nil) (.cons (.sub (.v 1) (.c (.int 0))) (.cons (.sub (.v 1) (.c (.int 1))) .nil)) .nil) (.nil))) (.nil))) (.nil))
def hk_Table___add__ : List (Nat × Nat) := []
def ow_Table___add__ : List (Nat × Nat × Nat) := []
theorem c_Table___add__ (K : PySem.W.Frag) (A : Ad) : compSs 40 ⟨N_Table___add__, defScope st_Table___add__, fun _ => true, tb_Table___add__ K A, hk_Table___add__, cl_Table___add__ K A, ow_Table___add__⟩ (defBody st_Table___add__) = some (b_Table___add__ K A) := by kernel_rfl
abbrev st__law_right : Stmt := top 43
abbrev N__law_right : List Str := ["_law_pot_here", "_law_span", "_law_line", "_law_parts_here", "_law_model", "_law_made", "_law_turn", "_law_place_here", "_law_held", "_law_less", "_law_more", "_law_chain", "_law_far", "_law_at", "_law_part"]
theorem s__law_right : FnScope N__law_right ["_law_pot_here"] (defScope st__law_right) := ⟨rfl, rfl, rfl, by decide +kernel, rfl, by decide +kernel, by decide +kernel⟩
def tb__law_right (K : PySem.W.Frag) (A : Ad) : List (Str × Gv) := [("_law_among", .fn ["_law_pot_here", "_law_some"] [(2, [], [.p 0, .p 1])] (sp__law_among K A)), ("_law_parts", .fn ["_law_pot_here", "_law_span"] [(2, [], [.p 0, .p 1])] (sp__law_parts K A)), ("dict", .ty .dict (none)), ("Table", .cls ⟨A.Table, some ⟨["self", "width", "rows"], [(3, [], [.p 0, .p 1, .p 2])], sp_Table___init__ K A⟩, [], [], [], []⟩), ("len", .bi .len), ("_law_is_right", .fn ["_law_made", "_law_model", "_law_place_here"] [(3, [], [.p 0, .p 1, .p 2])] (sp__law_is_right K A)), ("range", .rng), ("_law_place", .fn ["_law_pot_here", "_law_span", "_law_line", "_law_parts_here"] [(4, [], [.p 0, .p 1, .p 2, .p 3])] (sp__law_place K A)), ("_law_row", .fn ["_law_model", "_law_place_here"] [(2, [], [.p 0, .p 1])] (sp__law_row K A)), ("list", .ty .list (some .list)), ("int", .ty .int (some .int)), ("_law_turned", .fn ["_law_part"] [(1, [], [.p 0])] (sp__law_turned K A))]
def cl__law_right (K : PySem.W.Frag) (A : Ad) : List CI := [⟨A.Table, none, [("__len__", ⟨["self"], [(1, [], [.p 0])], sp_Table___len__ K A⟩), ("__sub__", ⟨["self", "stretch"], [(2, [], [.p 0, .p 1])], sp_Table___sub__ K A⟩), ("__call__", ⟨["self", "address"], [(2, [], [.p 0, .p 1])], sp_Table___call__ K A⟩), ("__add__", ⟨["self", "row"], [(2, [], [.p 0, .p 1])], sp_Table___add__ K A⟩)], [], [], []⟩]
def b__law_right (K : PySem.W.Frag) (A : Ad) : S := .cons (.set (.v 1) (.call (sp__law_among K A) (.cons (.v 0) (.cons (.lst (.cons (.c (.int 30)) (.cons (.c (.int 40)) (.cons (.c (.int 64)) (.cons (.c (.int 99)) (.cons (.c (.int 100)) (.cons (.c (.int 100)) (.nil)))))))) (.nil))) (.nil) [.p 0, .p 1])) (.cons (.set (.tup (.cons (.v 2) (.cons (.v 3) (.nil)))) (.call (sp__law_parts K A) (.cons (.v 0) (.cons (.v 1) (.nil))) (.nil) [.p 0, .p 1])) (.cons (.set (.v 4) (.own .dict (.lc (.tup (.cons (.v 14) (.cons (.call (sp__law_among K A) (.cons (.v 0) (.cons (.lst (.cons (.c (.str "a")) (.cons (.c (.str "b")) (.cons (.c (.str "c")) (.cons (.c (.str "home")) (.cons (.c (.str "hole")) (.nil))))))) (.nil))) (.nil) [.p 0, .p 1]) (.nil)))) (.v 14) (.v 3) (.nil) [14]) .nil .nil)) (.cons (.set (.v 5) (.own (.make A.Table (sp_Table___init__ K A) [.p 0, .p 1, .p 2]) .nil (.cons (.v 1) (.cons (.v 4) (.nil))) (.nil))) (.cons (.ite (.or (.cmp .NotEq (.own (.len [(A.Table, sp_Table___len__ K A, [.p 0])]) (.v 5) .nil .nil) (.bi .len (.cons (.v 4) (.nil)))) (.not (.call (sp__law_is_right K A) (.cons (.v 5) (.cons (.v 4) (.cons (.v 2) (.nil)))) (.nil) [.p 0, .p 1, .p 2]))) (.cons (.ret (.c (.bl false))) (.nil)) (.nil)) (.cons (.for_ (.v 6) (.rng1 (.cons (.c (.int 12)) (.nil))) (.cons (.set (.v 7) (.call (sp__law_place K A) (.cons (.v 0) (.cons (.v 1) (.cons (.v 2) (.cons (.v 3) (.nil))))) (.nil) [.p 0, .p 1, .p 2, .p 3])) (.cons (.ite (.not (.call (sp__law_is_right K A) (.cons (.v 5) (.cons (.v 4) (.cons (.v 7) (.nil)))) (.nil) [.p 0, .p 1, .p 2])) (.cons (.ret (.c (.bl false))) (.nil)) (.nil)) (.cons (.set (.v 8) (.call (sp__law_row K A) (.cons (.v 4) (.cons (.v 7) (.nil))) (.nil) [.p 0, .p 1])) (.cons (.ite (.cmp .IsNot (.v 8) (.c .non)) (.cons (.set (.v 9) (.own .dict (.lkE (.lc (.tup (.cons (.v 14) (.cons (.sub (.v 4) (.v 14)) (.nil)))) (.v 14) (.kd (.v 4)) (.cons (.cmp .NotEq (.v 14) (.v 8)) .nil) [14])) .nil .nil)) (.cons (.ite (.or (.not (.call (sp__law_is_right K A) (.cons (.own (.bin .Sub [(A.Table, sp_Table___sub__ K A, [.p 0, .p 1])]) (.v 5) (.cons (.v 8) .nil) .nil) (.cons (.v 9) (.cons (.v 7) (.nil)))) (.nil) [.p 0, .p 1, .p 2])) (.not (.call (sp__law_is_right K A) (.cons (.v 5) (.cons (.v 4) (.cons (.v 7) (.nil)))) (.nil) [.p 0, .p 1, .p 2]))) (.cons (.ret (.c (.bl false))) (.nil)) (.nil)) (.nil))) (.nil)) (.cons (.ite (.cmp .Lt (.bi .len (.cons (.v 4) (.nil))) (.c (.int 40))) (.cons (.set (.v 10) (.own .dict (.bin .Add (.own .listItems (.v 4) .nil .nil) (.lst (.cons (.tup (.cons (.v 7) (.cons (.c (.str "zz")) (.nil)))) (.nil)))) .nil .nil)) (.cons (.ite (.or (.cmp .NotEq (.own (.call [(A.Table, sp_Table___call__ K A, [.p 0, .p 1])]) (.own (.bin .Add [(A.Table, sp_Table___add__ K A, [.p 0, .p 1])]) (.v 5) (.cons (.tup (.cons (.v 7) (.cons (.c (.str "zz")) (.nil)))) .nil) .nil) (.cons (.v 7) (.nil)) (.nil)) (.c (.str "zz"))) (.not (.call (sp__law_is_right K A) (.cons (.own (.bin .Add [(A.Table, sp_Table___add__ K A, [.p 0, .p 1])]) (.v 5) (.cons (.tup (.cons (.v 7) (.cons (.c (.str "zz")) (.nil)))) .nil) .nil) (.cons (.v 10) (.cons (.v 2) (.nil)))) (.nil) [.p 0, .p 1, .p 2]))) (.cons (.ret (.c (.bl false))) (.nil)) (.nil)) (.nil))) (.nil)) (.nil))))))) (.cons (.set (.v 11) (.own .dict (.lc (.tup (.cons (.slc (.v 2) (.nil) (.cons (.v 13) .nil)) (.cons (.sub (.c (.str "abcdefghij")) (.bin .Mod (.bi .int (.cons (.v 13) (.nil))) (.c (.int 10)))) (.nil)))) (.v 13) (.rng3 (.cons (.bin .Sub (.call (sp__law_among K A) (.cons (.v 0) (.cons (.lst (.cons (.c (.int 1)) (.cons (.c (.int 31)) (.cons (.c (.int 40)) (.nil))))) (.nil))) (.nil) [.p 0, .p 1]) (.c (.int 1))) (.cons (.un .USub (.c (.int 1))) (.cons (.un .USub (.c (.int 1))) (.nil))))) (.cons (.cmp .LtE (.v 13) (.v 1)) .nil) [13]) .nil .nil)) (.cons (.set (.v 12) (.own (.make A.Table (sp_Table___init__ K A) [.p 0, .p 1, .p 2]) .nil (.cons (.v 1) (.cons (.v 11) (.nil))) (.nil))) (.cons (.for_ (.v 13) (.rng3 (.cons (.c (.int 0)) (.cons (.v 1) (.cons (.c (.int 3)) (.nil))))) (.cons (.set (.v 7) (.bin .Add (.bin .Add (.slc (.v 2) (.nil) (.cons (.v 13) .nil)) (.call (sp__law_turned K A) (.cons (.sub (.v 2) (.v 13)) (.nil)) (.nil) [.p 0])) (.slc (.v 2) (.cons (.bin .Add (.v 13) (.c (.int 1))) .nil) (.nil)))) (.cons (.ite (.not (.call (sp__law_is_right K A) (.cons (.v 12) (.cons (.v 11) (.cons (.v 7) (.nil)))) (.nil) [.p 0, .p 1, .p 2])) (.cons (.ret (.c (.bl false))) (.nil)) (.nil)) (.nil)))) (.cons (.ret (.call (sp__law_is_right K A) (.cons (.v 12) (.cons (.v 11) (.cons (.v 2) (.nil)))) (.nil) [.p 0, .p 1, .p 2])) (.nil))))))))))
def hk__law_right : List (Nat × Nat) := [(256, 82)]
def ow__law_right : List (Nat × Nat × Nat) := [(248, 7, 21), (257, 33, 54), (261, 16, 51), (261, 99, 134)]
theorem c__law_right (K : PySem.W.Frag) (A : Ad) : compSs 40 ⟨N__law_right, defScope st__law_right, fun _ => true, tb__law_right K A, hk__law_right, cl__law_right K A, ow__law_right⟩ (defBody st__law_right) = some (b__law_right K A) := by kernel_rfl
abbrev st__law_pot : Stmt := top 34
abbrev N__law_pot : List Str := ["_law_script", "_law_k", "_law_cell"]
theorem s__law_pot : FnScope N__law_pot ["_law_script", "_law_k"] (defScope st__law_pot) := ⟨rfl, rfl, rfl, by decide +kernel, rfl, by decide +kernel, by decide +kernel⟩
def tb__law_pot (K : PySem.W.Frag) (A : Ad) : List (Str × Gv) := [("len", .bi .len), ("abs", .bi .abs), ("int", .ty .int (some .int)), ("max", .bi .max)]
def cl__law_pot (K : PySem.W.Frag) (A : Ad) : List CI := []
def b__law_pot (K : PySem.W.Frag) (A : Ad) : S := .cons (.set (.v 2) (.bin .Add (.bin .Mult (.c (.int 71)) (.v 1)) (.c (.int 47)))) (.cons (.ite (.cmp .Lt (.v 1) (.bi .len (.cons (.v 0) (.nil)))) (.cons (.set (.v 2) (.bi .abs (.cons (.sub (.v 0) (.v 1)) (.nil)))) (.nil)) (.nil)) (.cons (.ret (.lst (.cons (.bi .max (.cons (.c (.int 0)) (.cons (.bin .Sub (.v 2) (.bin .Pow (.c (.int 10)) (.c (.int 18)))) (.nil)))) (.cons (.bin .Add (.bin .Mod (.bi .int (.cons (.bin .Add (.bin .Add (.bin .Mult (.bin .Mod (.bi .int (.cons (.v 2) (.nil))) (.c (.int 2147483629))) (.c (.int 48271))) (.bin .Mult (.c (.int 7069)) (.v 1))) (.c (.int 89))) (.nil))) (.c (.int 2147483587))) (.c (.int 1))) (.nil))))) (.nil)))
def hk__law_pot : List (Nat × Nat) := []
def ow__law_pot : List (Nat × Nat × Nat) := []
theorem c__law_pot (K : PySem.W.Frag) (A : Ad) : compSs 40 ⟨N__law_pot, defScope st__law_pot, fun _ => true, tb__law_pot K A, hk__law_pot, cl__law_pot K A, ow__law_pot⟩ (defBody st__law_pot) = some (b__law_pot K A) := by kernel_rfl
abbrev st_law : Stmt := top 44
abbrev N_law : List Str := ["_law_script", "_law_k"]
theorem s_law : FnScope N_law ["_law_script"] (defScope st_law) := ⟨rfl, rfl, rfl, by decide +kernel, rfl, by decide +kernel, by decide +kernel⟩
def tb_law (K : PySem.W.Frag) (A : Ad) : List (Str × Gv) := [("all", .bi .all), ("range", .rng), ("max", .bi .max), ("min", .bi .min), ("len", .bi .len), ("_law_right", .fn ["_law_pot_here"] [(1, [], [.p 0])] (sp__law_right K A)), ("_law_pot", .fn ["_law_script", "_law_k"] [(2, [], [.p 0, .p 1])] (sp__law_pot K A))]
def cl_law (K : PySem.W.Frag) (A : Ad) : List CI := []
def b_law (K : PySem.W.Frag) (A : Ad) : S := .cons (.ret (.bid .all (.lc (.call (sp__law_right K A) (.cons (.call (sp__law_pot K A) (.cons (.v 0) (.cons (.v 1) (.nil))) (.nil) [.p 0, .p 1]) (.nil)) (.nil) [.p 0]) (.v 1) (.rng1 (.cons (.bi .max (.cons (.c (.int 1)) (.cons (.bi .min (.cons (.c (.int 4)) (.cons (.bi .len (.cons (.v 0) (.nil))) (.nil)))) (.nil)))) (.nil))) (.nil) [1]))) (.nil)
def hk_law : List (Nat × Nat) := []
def ow_law : List (Nat × Nat × Nat) := []
theorem c_law (K : PySem.W.Frag) (A : Ad) : compSs 40 ⟨N_law, defScope st_law, fun _ => true, tb_law K A, hk_law, cl_law K A, ow_law⟩ (defBody st_law) = some (b_law K A) := by kernel_rfl
end L17

set_option maxRecDepth 100000
set_option maxHeartbeats 1000000
namespace L17
open PySem PySem.Spec L2 CW
variable {K : PySem.W.Frag} {W : WX} {A : Ad}
theorem cut_last (l : List Nat) (c : Nat) : cutS (T (l ++ [c])) none (some (-1 : Int)) = T l := by
  show (⟨(((l ++ [c]).drop 0).take (HT.sIx (l ++ [c]).length (l ++ [c]).length (some (-1 : Int)) - 0)).toArray⟩ : Str) = _
  have e : HT.sIx (l ++ [c]).length (l ++ [c]).length (some (-1 : Int)) = l.length := by
    show (if (-1 : Int) < 0 then ((-1 : Int) + ((l ++ [c]).length : Int)).toNat else min (-1 : Int).toNat (l ++ [c]).length) = _
    rw [if_pos (by decide), List.length_append]; simp; omega
  rw [e, Nat.sub_zero, List.drop_zero, List.take_left']
  rfl
theorem cut_from (l : List Nat) (k : Nat) : cutS (T l) (some (k : Int)) none = T (l.drop k) := by
  show (⟨((l.drop (HT.sIx l.length 0 (some (k : Int)))).take (l.length - HT.sIx l.length 0 (some (k : Int)))).toArray⟩ : Str) = _
  have e : HT.sIx l.length 0 (some (k : Int)) = min k l.length := by
    show (if (k : Int) < 0 then ((k : Int) + (l.length : Int)).toNat else min (k : Int).toNat l.length) = _
    rw [if_neg (by omega), Int.toNat_natCast]
  rw [e]
  by_cases h : k ≤ l.length
  · rw [Nat.min_eq_left h, List.take_of_length_le (by simp)]
  · rw [Nat.min_eq_right (by omega), List.drop_length, List.drop_eq_nil_of_le (by omega), List.take_nil]
theorem turn_snoc (l : List Nat) (c : Nat) : turn (l ++ [c]) = l ++ [97 - c] := by
  unfold turn; simp
theorem bit_cases {c : Nat} (h : isBit c = true) : c = 48 ∨ c = 49 := by
  unfold isBit at h; simpa [Bool.or_eq_true] using h
theorem turn_bt {s : List Nat} (h : Bt s) (n : s ≠ []) : Bt (turn s) ∧ (turn s).length = s.length := by
  obtain ⟨l, c, rfl⟩ : ∃ l c, s = l ++ [c] := ⟨s.dropLast, s.getLast n, (List.dropLast_concat_getLast n).symm⟩
  rw [turn_snoc]
  have hc := bit_cases (h c (by simp))
  refine ⟨fun x hx => ?_, by simp⟩
  rcases List.mem_append.mp hx with z | z
  · exact h x (List.mem_append_left _ z)
  · rw [List.mem_singleton.mp z]; rcases hc with rfl | rfl <;> rfl
theorem rd_law_turned (vs : List V) (H : Hp) (Q : VK) (R : XK) (h : sp__law_turned K A vs H Q R) : vs.length = 1 ∧ wS K W (b__law_turned K A) (Dn Q) (start N__law_turned vs) H := by
  obtain ⟨s, rfl, n, hl, hb, q⟩ := h
  have hz : (sizeLine : Nat) = 16777216 := sizeLine_eq
  obtain ⟨l, c, rfl⟩ : ∃ l c, s = l ++ [c] := ⟨s.dropLast, s.getLast n, (List.dropLast_concat_getLast n).symm⟩
  rw [turn_snoc] at q
  refine ⟨rfl, ?_⟩
  refine ⟨by rw [T_len]; omega, ?_⟩
  intro p hp
  refine ⟨upd_same, [(.inr "0", .str "1"), (.inr "1", .str "0")], rfl, by decide, ?_⟩
  refine ⟨by rw [T_len]; omega, c, ?_, ?_⟩
  · show atI (l ++ [c]) (-1) = some c
    unfold atI ixN
    rw [if_neg (by decide), if_pos (by simp; omega)]
    show (l ++ [c])[((-1 : Int) + ((l ++ [c]).length : Int)).toNat]? = some c
    rw [show ((-1 : Int) + ((l ++ [c]).length : Int)).toNat = l.length by simp; omega]
    simp
  have gr : Grow H (upd (upd H p (.dK [])) p (.dK (mergeK [] [(.inr "0", .str "1"), (.inr "1", .str "0")]))) := fun b o e => by rw [upd_ne (ne_of_none e hp), upd_ne (ne_of_none e hp)]; exact e
  have hg := DGet.k (H := upd (upd H p (.dK [])) p (.dK (mergeK [] [(.inr "0", .str "1"), (.inr "1", .str "0")]))) (a := p) (kvs := mergeK [] [(.inr "0", .str "1"), (.inr "1", .str "0")]) (k := .inr ⟨#[c]⟩) upd_same
  have e2 : valV (mergeK [] [((.inr "0" : Key), V.str "1"), (.inr "1", .str "0")]) (.inr ⟨#[c]⟩) = some (tx [97 - c]) := by
    rcases bit_cases (hb c (by simp)) with rfl | rfl <;> decide +kernel
  rw [e2] at hg
  refine Or.inr (Or.inr ⟨_, hg, ?_⟩)
  refine ⟨?_, ?_⟩
  · rw [show (-(1 : Int)) = -1 from rfl, cut_last, T_len, T_len]; simp at hl; simp; omega
  · rw [show (-(1 : Int)) = -1 from rfl, cut_last, T_app]
    exact q _ gr
/-- the bit at k turned -/
def flipA (l : List Nat) (k : Nat) : List Nat := l.take k ++ turn [l.getD k 48] ++ l.drop (k + 1)
theorem flip_ok {l : List Nat} {k w : Nat} (hl : l.length = w) (hk : k < w) (hb : Bt l) : Bt (flipA l k) ∧ (flipA l k).length = w := by
  have hg : l.getD k 48 = l[k] := by simp [hl, hk]
  have h1 := turn_bt (s := [l.getD k 48]) (fun c hc => by rw [List.mem_singleton.mp hc, hg]; exact hb _ (List.getElem_mem _)) (by simp)
  unfold flipA
  refine ⟨((hb.take k).app h1.1).app fun c hc => hb c (List.mem_of_mem_drop hc), ?_⟩
  rw [List.length_append, List.length_append, h1.2, List.length_take, List.length_drop]; simp; omega
theorem atI_nat {l : List Nat} {k : Nat} (h : k < l.length) : atI l (k : Int) = some l[k] := by
  unfold atI ixN
  rw [if_pos (by omega), if_pos (by omega)]
  show l[(k : Int).toNat]? = _
  rw [Int.toNat_natCast, List.getElem?_eq_getElem h]
/-- line[:k] + turned(line[k]) + line[k + 1:] -/
theorem flipE {σ : L2.St} {i j k w : Nat} {line : List Nat} {H : Hp} {Q : VK} (hi : σ[i]? = some (some (tx line))) (hj : σ[j]? = some (some (.int (k : Nat)))) (hl : line.length = w) (hw : w ≤ 100) (hk : k < w) (hb : Bt line) (q : ∀ H', Grow H H' → Q (tx (flipA line k)) H') :
    wE K W (.bin .Add (.bin .Add (.slc (.v i) (.nil) (.cons (.v j) .nil)) (.call (sp__law_turned K A) (.cons (.sub (.v i) (.v j)) (.nil)) (.nil) [.p 0])) (.slc (.v i) (.cons (.bin .Add (.v j) (.c (.int 1))) .nil) (.nil))) σ H Q := by
  have hz : (sizeLine : Nat) = 16777216 := sizeLine_eq
  have hg : line.getD k 48 = line[k] := by simp [hl, hk]
  refine e_bin (e_bin (e_slc (wE_v hi (o_nil (o_cons (wE_v hj ?_))))))
  refine ⟨by rw [T_len]; omega, ?_⟩
  rw [cut_to]
  refine e_call (a_cons (e_sub (wE_v hi (wE_v hj ?_))))
  refine ⟨by rw [T_len]; omega, line[k], atI_nat (l := line) (by omega), ?_⟩
  refine ⟨[line[k]], rfl, by simp, by simp, fun c hc => by rw [List.mem_singleton.mp hc]; exact hb _ (List.getElem_mem _), fun H' g => ?_⟩
  have ht := turn_bt (s := [line[k]]) (fun c hc => by rw [List.mem_singleton.mp hc]; exact hb _ (List.getElem_mem _)) (by simp)
  have l1 : (line.take k).length ≤ 100 := by rw [List.length_take]; omega
  refine ⟨by rw [T_len, T_len, ht.2]; simp; omega, ?_⟩
  rw [T_app]
  refine e_slc (wE_v hi (o_cons (e_bin (wE_v hj ?_))))
  refine ⟨by rw [T_len]; omega, ?_⟩
  rw [show ((k : Nat) : Int) + 1 = ((k + 1 : Nat) : Int) by omega, cut_from]
  refine ⟨by rw [T_len, T_len, List.length_append, ht.2, List.length_drop]; simp; omega, ?_⟩
  rw [T_app]
  have e : line.take k ++ turn [line[k]] ++ line.drop (k + 1) = flipA line k := by unfold flipA; rw [hg]
  rw [e]
  exact q H' g
end L17

set_option maxRecDepth 100000
set_option maxHeartbeats 1000000
namespace L17
open PySem PySem.Spec L2 CW
variable {K : PySem.W.Frag} {W : WX} {A : Ad}
theorem rd_law_is_right (vs : List V) (H : Hp) (Q : VK) (R : XK) (h : sp__law_is_right K A vs H Q R) : vs.length = 3 ∧ wS K W (b__law_is_right K A) (Dn Q) (start N__law_is_right vs) H := by
  obtain ⟨t, r, z, d, w, ks, ls, g, g2, a, rfl, tb, hd, e1, e2, ba, la, q⟩ := h
  have hz : (sizeLine : Nat) = 16777216 := sizeLine_eq
  have w2 := tb.w2
  refine ⟨rfl, d, ls, g2, a, rfl, hd, by omega, ?_⟩
  have er : rowO ls a = rowO ks a := rowO_congr fun x _ => (e1 x).symm
  have eg : goalO ls g2 a = goalO ks g a := (goalO_congr e1 e2).symm
  rw [er]
  obtain ⟨dx, ht⟩ := tb.at_
  show wS K W (.cons (.ret (.cmp .Eq (.bi .repr (.cons (.lst (.cons (.own (.meth [(A.Table, sp_Table_row K A, [.p 0, .p 1])] "row") (.v 0) (.cons (.v 2) (.nil)) (.nil)) (.cons (.own (.call [(A.Table, sp_Table___call__ K A, [.p 0, .p 1])]) (.v 0) (.cons (.v 2) (.nil)) (.nil)) (.nil)))) (.nil))) (.bi .repr (.cons (.lst (.cons (.v 3) (.cons (.ite (.cmp .Is (.v 3) (.c .non)) (.c (.str "hole")) (.sub (.v 1) (.v 3))) (.nil)))) (.nil))))) (.nil)) (Dn Q) [some (.ref t), some (.ref d), some (tx a), some (vO (rowO ks a))] H
  refine ⟨t, A.Table, dx, _, _, _, rfl, ht, rfl, List.mem_singleton.mpr rfl, t, r, z, w, ks, g, a, rfl, tb, ba, la, ?_⟩
  refine ⟨t, A.Table, dx, _, _, _, rfl, ht, List.mem_singleton.mpr rfl, ⟨dx, _, ht⟩, t, r, z, w, ks, g, a, rfl, tb, ba, la, ?_⟩
  refine ⟨by show 2 ≤ sizeLine; decide, fun q1 hq1 => ?_⟩
  have f1 := rowO_fit tb.ok w2 a
  have gok := goalO_ok tb.ok a
  have f2 : Fit 100 0 (.str (T (goalO ks g a))) := Fit.str (by rw [T_len]; omega) gok.2
  have fl : Fit 1000 1 (.list [dO (rowO ks a), .str (T (goalO ks g a))]) := (Fit.list (.cons f1 (.cons f2 .nil))).up (by decide) (by decide)
  refine Or.inl ⟨_, .lst (SqL.of upd_same) (.cons (dp_O _) (.cons (.str _) .nil)), fl.sho, fl.r2 (by decide), fl.r3 (by decide) (by decide), ?_⟩
  have g1 : Grow H (upd H q1 (.lst [vO (rowO ks a), tx (goalO ks g a)])) := Grow.refl.new hq1
  have fin : ∀ H1, Grow H H1 → wA K W (.cons (.ite (.cmp .Is (.v 3) (.c .non)) (.c (.str "hole")) (.sub (.v 1) (.v 3))) (.nil)) [some (.ref t), some (.ref d), some (tx a), some (vO (rowO ks a))] H1 (fun xs H2 => (vO (rowO ks a) :: xs).length ≤ sizeLine ∧ ∀ p, H2 p = none → rRepr K (.ref p) (upd H2 p (.lst (vO (rowO ks a) :: xs))) fun y H3 => rCmp K .Eq (.str (PyData.list [dO (rowO ks a), .str (T (goalO ks g a))]).shown) y H3 Q) := by
    intro H1 g1
    have go : ∀ H2, Grow H H2 → (vO (rowO ks a) :: [tx (goalO ks g a)]).length ≤ sizeLine ∧ ∀ p, H2 p = none → rRepr K (.ref p) (upd H2 p (.lst (vO (rowO ks a) :: [tx (goalO ks g a)]))) fun y H3 => rCmp K .Eq (.str (PyData.list [dO (rowO ks a), .str (T (goalO ks g a))]).shown) y H3 Q := by
      intro H2 g2
      refine ⟨by show 2 ≤ sizeLine; decide, fun q2 hq2 => ?_⟩
      refine Or.inl ⟨_, .lst (SqL.of upd_same) (.cons (dp_O _) (.cons (.str _) .nil)), fl.sho, fl.r2 (by decide), fl.r3 (by decide) (by decide), ?_⟩
      refine ⟨rfl, ?_⟩
      rw [dec_self]
      exact q _ (g2.new hq2)
    rcases rowO_cases ks a with ⟨e, _⟩ | ⟨s, e, h1, _⟩
    · have eg0 : goalO ks g a = [104, 111, 108, 101] := by unfold goalO; rw [e]
      rw [eg0] at go ⊢
      rw [e] at go ⊢
      have := go H1 g1
      show (V.non :: [V.str "hole"]).length ≤ sizeLine ∧ _
      rw [holeT]; exact this
    · have eg0 : goalO ks g a = g s := by unfold goalO; rw [e]
      rw [eg0] at go ⊢
      rw [e] at go ⊢
      refine Or.inr (Or.inr ⟨_, (hd.grow g1).get ((e1 s).mp h1), ?_⟩)
      rw [← e2 s h1]
      exact go H1 g1
  exact fin _ g1
theorem rd_law_place (vs : List V) (H : Hp) (Q : VK) (R : XK) (h : sp__law_place K A vs H Q R) : vs.length = 4 ∧ wS K W (b__law_place K A) (Dn Q) (start N__law_place vs) H := by
  obtain ⟨p, l, w, line, ks, rfl, hp, w1, w2, ll, bl, hk, ok, nlp, hl, q⟩ := h
  have hz : (sizeLine : Nat) = 16777216 := sizeLine_eq
  refine ⟨rfl, p, 4, rfl, hp, by omega, by omega, fun way H1 d0 d1 c1 => ?_⟩
  have hl1 := c1.old l _ nlp hl
  show wS K W (.cons (.ite (.or (.cmp .Eq (.v 4) (.c (.int 0))) (.cmp .Eq (.v 3) (.lst (.nil)))) _ _) _) (Dn Q) [some (.ref p), some (.int w), some (tx line), some (.ref l), some (.int way), none, none] H1
  have free : ∀ H2, Chg p H H2 → wS K W (.cons (.ret (.call (sp__law_bits K A) (.cons (.v 0) (.cons (.v 1) (.cons (.v 1) (.nil)))) (.nil) [.p 0, .p 1, .p 2])) (.nil)) (Dn Q) [some (.ref p), some (.int w), some (tx line), some (.ref l), some (.int way), none, none] H2 := by
    intro H2 c2
    exact ⟨p, w, w, rfl, c2.pot, Nat.le_refl _, by omega, fun a H3 h1 h2 ba c3 => q a H3 ba (by omega) (c2.trans c3)⟩
  refine ⟨rfl, ?_⟩
  show if decide (V.int way = V.int 0) = true then _ else _
  by_cases hw0 : way = 0
  · rw [if_pos (by simp [hw0])]
    exact free H1 c1
  rw [if_neg (by simpa using hw0)]
  refine ⟨Nat.zero_le _, fun q0 hq0 => ?_⟩
  have nq0 : q0 ≠ p := Chg.ne c1.pot hq0
  have c2 := c1.new (o := .lst []) hq0
  refine eq_nilC (xs := ks) (SqL.of (keepA hl1 hq0)) (SqL.of upd_same) (fun x hx => (ok x hx).1.ascii) ?_
  have hl2 : upd H1 q0 (.lst []) l = some (.lst (ks.map tx)) := keepA hl1 hq0
  generalize upd H1 q0 (.lst []) = H2 at c2 hl2
  show if ks.isEmpty = true then _ else _
  by_cases hks : ks = []
  · subst hks
    exact free H2 c2
  have hke : ks.isEmpty = false := by cases ks; exact absurd rfl hks; rfl
  rw [hke, if_neg (by decide)]
  show wS K W (.cons (.set (.v 5) (.call (sp__law_among K A) (.cons (.v 0) (.cons (.v 3) (.nil))) (.nil) [.p 0, .p 1])) _) (Dn Q) [some (.ref p), some (.int w), some (tx line), some (.ref l), some (.int way), none, none] H2
  refine ⟨p, .ref l, rfl, c2.pot, .inl ⟨l, _, rfl, nlp, SqL.of hl2, by rw [List.length_map]; exact List.length_pos_iff.mpr hks, by rw [List.length_map]; omega, fun v H3 hv c3 => ?_⟩⟩
  obtain ⟨s, hs, rfl⟩ := List.mem_map.mp hv
  obtain ⟨bs, ls⟩ := ok s hs
  have c3' := c2.trans c3
  show wS K W (.cons (.ite (.cmp .Eq (.v 4) (.c (.int 1))) _ _) _) (Dn Q) [some (.ref p), some (.int w), some (tx line), some (.ref l), some (.int way), some (tx s), none] H3
  refine ⟨rfl, ?_⟩
  show if decide (V.int way = V.int 1) = true then _ else _
  by_cases hw1 : way = 1
  · rw [if_pos (by simp [hw1])]
    refine ⟨p, .str "01", rfl, c3'.pot, .inr (.inl ⟨"01", rfl, by decide, by decide, fun c H4 hc c4 => ?_⟩)⟩
    have hb : isBit c = true := by rw [← bitIn2 c]; exact decide_eq_true hc
    refine ⟨by rw [T_len]; omega, ?_⟩
    have en : ((w : Int) - ((T s).length : Int)) = ((w - s.length : Nat) : Int) := by rw [T_len]; omega
    show ((((w : Int) - ((T s).length : Int)) < 1000000 ∧ -1000000 < ((w : Int) - ((T s).length : Int)) ∧ (T [c]).length * ((w : Int) - ((T s).length : Int)).toNat ≤ sizeLine) ∧ _)
    rw [en]
    refine ⟨⟨by omega, by omega, by rw [T_len, Int.toNat_natCast]; simp; omega⟩, ?_⟩
    have er : strRep (T [c]) ((w - s.length : Nat) : Int) = T (List.replicate (w - s.length) c) := by
      unfold strRep
      generalize w - s.length = n
      rcases Nat.lt_or_ge n 1 with h | h
      · have : n = 0 := by omega
        subst this; rfl
      · rw [if_neg (by omega)]
        by_cases h1 : n = 1
        · subst h1; rfl
        · rw [if_neg (by rw [T_len]; simp; omega)]
          have : ∀ (k : Nat) (acc : Array Nat), (List.replicate k (T [c]).cps).foldl (· ++ ·) acc = acc ++ (List.replicate k c).toArray := by
            intro k
            induction k with
            | zero => intro acc; simp
            | succ k ih =>
              intro acc
              rw [List.replicate_succ, List.foldl_cons, ih]
              show acc ++ #[c] ++ (List.replicate k c).toArray = _
              rw [List.replicate_succ, Array.append_assoc]
              congr 1
              simp
          rw [Int.toNat_natCast, this]
          simp [T]
    rw [er]
    refine ⟨by rw [T_len, T_len, List.length_replicate]; omega, ?_⟩
    rw [T_app]
    refine q _ H4 (bs.app fun x hx => by rw [List.eq_of_mem_replicate hx]; exact hb) (by simp; omega) (c3'.trans c4)
  rw [if_neg (by simpa using hw1)]
  show wS K W (.cons (.ite (.cmp .Eq (.v 4) (.c (.int 2))) _ _) _) (Dn Q) [some (.ref p), some (.int w), some (tx line), some (.ref l), some (.int way), some (tx s), none] H3
  refine ⟨rfl, ?_⟩
  show if decide (V.int way = V.int 2) = true then _ else _
  have en : ((w : Int) - ((T s).length : Int)) = ((w - s.length : Nat) : Int) := by rw [T_len]; omega
  by_cases hw2 : way = 2
  · rw [if_pos (by simp [hw2])]
    refine ⟨by rw [T_len]; omega, ⟨by rw [T_len]; omega, p, w - s.length, w - s.length, ?_, c3'.pot, Nat.le_refl _, by omega, fun a H4 a1 a2 ba c4 => ?_⟩⟩
    · show [V.ref p, V.int ((w : Int) - ((T s).length : Int)), V.int ((w : Int) - ((T s).length : Int))] = _
      rw [en]
    · refine ⟨by rw [T_len, T_len]; omega, ?_⟩
      rw [T_app]
      exact q _ H4 (bs.app ba) (by rw [List.length_append]; omega) (c3'.trans c4)
  rw [if_neg (by simpa using hw2)]
  refine ⟨p, w, rfl, c3'.pot, by omega, by omega, fun dd H4 e0 e1 c4 => ?_⟩
  obtain ⟨k, rfl⟩ := Int.eq_ofNat_of_zero_le e0
  have hkw : k < w := by omega
  have fo := flip_ok ll hkw bl
  refine flipE (i := 2) (j := 6) (σ := [some (.ref p), some (.int w), some (tx line), some (.ref l), some (.int way), some (tx s), some (.int (k : Nat))]) (w := w) rfl rfl ll w2 hkw bl fun H' g => ?_
  have c4' := c3'.trans c4
  exact q _ H' fo.1 fo.2 (c4'.trans (Chg.of_grow c4'.pot g))
end L17

set_option maxRecDepth 100000
set_option maxHeartbeats 1000000
namespace L17
open PySem PySem.Spec L2 CW
variable {K : PySem.W.Frag} {W : WX} {A : Ad}
theorem nodup_len : ∀ {xs ys : List (List Nat)}, xs.Nodup → (∀ x ∈ xs, x ∈ ys) → xs.length ≤ ys.length
  | [], _, _, _ => Nat.zero_le _
  | x :: xs, ys, nd, h => by
    have n2 := List.nodup_cons.mp nd
    have hx := h x List.mem_cons_self
    have := nodup_len (ys := ys.erase x) n2.2 fun y hy => (List.mem_erase_of_ne (fun c => n2.1 (by rw [← c]; exact hy))).mpr (h y (List.mem_cons_of_mem _ hy))
    rw [List.length_erase_of_mem hx] at this
    have := List.length_pos_of_mem hx
    rw [List.length_cons]; omega
def freshL (line s : List Nat) (w : Nat) : List (List Nat) := (s :: (List.range (w + 1)).map fun i => line.take i) ++ (List.range w).map fun i => turn (line.take (i + 1))
theorem take_len {line : List Nat} {w i : Nat} (hl : line.length = w) (hi : i ≤ w) : (line.take i).length = i := by rw [List.length_take]; omega
theorem turn_ne {s : List Nat} (h : s ≠ []) (hb : Bt s) : turn s ≠ s := by
  obtain ⟨l, c, rfl⟩ : ∃ l c, s = l ++ [c] := ⟨s.dropLast, s.getLast h, (List.dropLast_concat_getLast h).symm⟩
  rw [turn_snoc]
  intro e
  have := List.append_cancel_left e
  have : 97 - c = c := by simpa using this
  rcases bit_cases (hb c (by simp)) with rfl | rfl <;> omega
theorem take_ne {line : List Nat} {w i : Nat} (hl : line.length = w) (hi : i < w) : line.take (i + 1) ≠ [] := fun c => by
  have := congrArg List.length c
  rw [take_len hl (by omega)] at this; simp at this
theorem fresh_ok {line s : List Nat} {w : Nat} (hl : line.length = w) (hb : Bt line) (bs : Bt s) (ls : s.length ≤ w) : StOk w (freshL line s w) := fun x hx => by
  unfold freshL at hx
  rcases List.mem_append.mp hx with h | h
  · rcases List.mem_cons.mp h with rfl | h
    · exact ⟨bs, ls⟩
    · obtain ⟨i, hi, rfl⟩ := List.mem_map.mp h
      exact ⟨hb.take i, by rw [List.length_take]; omega⟩
  · obtain ⟨i, hi, rfl⟩ := List.mem_map.mp h
    have hi := List.mem_range.mp hi
    have := turn_bt (hb.take (i + 1)) (take_ne hl hi)
    exact ⟨this.1, by rw [this.2, take_len hl (by omega)]; omega⟩
theorem fresh_some {line s : List Nat} {w : Nat} {ks : List (List Nat)} (hl : line.length = w) (hb : Bt line) (hw : 30 ≤ w) (hk : ks.length ≤ 40) : ∃ x r, (freshL line s w).filter (fun x => decide (x ∉ ks)) = x :: r := by
  cases e : (freshL line s w).filter (fun x => decide (x ∉ ks)) with
  | cons x r => exact ⟨x, r, rfl⟩
  | nil =>
    exfalso
    have hall : ∀ x ∈ freshL line s w, x ∈ ks := fun x hx => by
      by_cases c : x ∈ ks
      · exact c
      · have : x ∈ (freshL line s w).filter (fun x => decide (x ∉ ks)) := List.mem_filter.mpr ⟨hx, by simpa using c⟩
        rw [e] at this; cases this
    have nd : (((List.range (w + 1)).map fun i => line.take i) ++ (List.range w).map fun i => turn (line.take (i + 1))).Nodup := by
      rw [List.nodup_append]
      refine ⟨?_, ?_, ?_⟩
      · refine List.pairwise_map.mpr (List.Pairwise.imp_of_mem (fun {i j} hi hj hne eij => hne ?_) List.nodup_range)
        have hi := List.mem_range.mp hi
        have hj := List.mem_range.mp hj
        have := congrArg List.length eij
        rw [take_len hl (by omega), take_len hl (by omega)] at this
        exact this
      · refine List.pairwise_map.mpr (List.Pairwise.imp_of_mem (fun {i j} hi hj hne eij => hne ?_) List.nodup_range)
        have hi := List.mem_range.mp hi
        have hj := List.mem_range.mp hj
        have := congrArg List.length eij
        rw [(turn_bt (hb.take _) (take_ne hl hi)).2, (turn_bt (hb.take _) (take_ne hl hj)).2, take_len hl (by omega), take_len hl (by omega)] at this
        omega
      · intro a ha b hb' eab
        obtain ⟨i, hi, rfl⟩ := List.mem_map.mp ha
        obtain ⟨j, hj, rfl⟩ := List.mem_map.mp hb'
        have hi := List.mem_range.mp hi
        have hj := List.mem_range.mp hj
        have h1 := congrArg List.length eab
        rw [(turn_bt (hb.take _) (take_ne hl hj)).2, take_len hl (by omega), take_len hl (by omega)] at h1
        subst h1
        exact turn_ne (take_ne hl hj) (hb.take _) eab.symm
    have := nodup_len nd fun x hx => hall x (by
      unfold freshL
      rcases List.mem_append.mp hx with h | h
      · exact List.mem_append_left _ (List.mem_cons_of_mem _ h)
      · exact List.mem_append_right _ h)
    rw [List.length_append, List.length_map, List.length_map, List.length_range, List.length_range] at this
    omega
/-- what holds ahead of each turn -/
def PI (p l : Addr) (w : Nat) (line : List Nat) (H : Hp) (k : Nat) (σ : L2.St) (H2 : Hp) : Prop :=
  ∃ (ks : List (List Nat)) (s4 s5 s6 s7 s8 : Option V), σ = [some (.ref p), some (.int w), some (tx line), some (.ref l), s4, s5, s6, s7, s8, none] ∧ ks.length = k ∧ ks.Nodup ∧ StOk w ks ∧ Chg p H H2 ∧ H2 l = some (.lst (ks.map tx))
def restB (K : PySem.W.Frag) (A : Ad) : S := .cons (.set (.v 8) (.bin .Add (.lst (.cons (.v 7) (.nil))) (.lc (.slc (.v 2) (.nil) (.cons (.v 9) .nil)) (.v 9) (.rng1 (.cons (.bin .Add (.v 1) (.c (.int 1))) (.nil))) (.nil) [9]))) (.cons (.ex (.mt .extend (.v 8) (.cons (.lc (.call (sp__law_turned K A) (.cons (.slc (.v 2) (.nil) (.cons (.v 9) .nil)) (.nil)) (.nil) [.p 0]) (.v 9) (.rng2 (.cons (.c (.int 1)) (.cons (.bin .Add (.v 1) (.c (.int 1))) (.nil)))) (.nil) [9]) (.nil)))) (.cons (.ex (.mt .append (.v 3) (.cons (.sub (.lc (.v 9) (.v 9) (.v 8) (.cons (.cmp .NotIn (.v 9) (.v 3)) .nil) [9]) (.c (.int 0))) (.nil)))) (.nil)))
theorem rd_rest {p l : Addr} {w k : Nat} {line s : List Nat} {ks : List (List Nat)} {H H3 : Hp} {D : Ends} {s4 s5 s6 s8 : Option V} (hD : ∀ σ' H', PI p l w line H (k + 1) σ' H' → D.nx σ' H') (w1 : 30 ≤ w) (w2 : w ≤ 100) (ll : line.length = w) (bl : Bt line) (bs : Bt s) (ls : s.length ≤ w) (hk : ks.length = k) (hk2 : k ≤ 40) (nd : ks.Nodup) (ok : StOk w ks)
    (nlp : l ≠ p) (hl0 : H l = none) (c3 : Chg p H H3) (hl : H3 l = some (.lst (ks.map tx))) : wS K W (restB K A) D [some (.ref p), some (.int w), some (tx line), some (.ref l), s4, s5, s6, some (tx s), s8, none] H3 := by
  have hz : (sizeLine : Nat) = 16777216 := sizeLine_eq
  refine ⟨by show 1 ≤ sizeLine; decide, fun q1 hq1 => ?_⟩
  refine ⟨_, rfl, by omega, by omega, fun D1 hD1 => ?_⟩
  rw [show ((w : Int) + 1).toNat = w + 1 by omega]
  have g1 : Grow H3 (upd H3 q1 (.lst [tx s])) := Grow.refl.new hq1
  have hq1' : upd H3 q1 (.lst [tx s]) q1 = some (.lst [tx s]) := upd_same
  generalize upd H3 q1 (.lst [tx s]) = H4 at g1 hq1' hD1
  refine lc_map walk_range (fun i => tx (line.take i)) (by omega) hD1 (fun _ _ => trivial) (fun i x H5 H6 hi g5 y => ?_) (fun H5 g5 hD5 => ?_)
  · obtain ⟨rfl, rfl⟩ := y
    refine ⟨Grow.refl, fun R N hR => ⟨rfl, ?_⟩⟩
    show wE K W0 (.slc (.v 2) (.nil) (.cons (.v 9) .nil)) [some (.ref p), some (.int w), some (tx line), some (.ref l), s4, s5, s6, some (tx s), s8, some (.int ((0 : Int) + (i : Nat)))] H6 R
    refine ⟨by rw [T_len]; omega, ?_⟩
    rw [Int.zero_add, cut_to]
    exact hR _ Grow.refl
  refine Or.inl ⟨q1, D1, _, _, rfl, rfl, g5 _ _ hq1', hD5, by rw [List.length_map, List.length_range]; simp; omega, fun q2 hq2 => ?_⟩
  have e6 : [tx s] ++ (List.range (w + 1)).map (fun i => tx (line.take i)) = (s :: (List.range (w + 1)).map fun i => line.take i).map tx := by rw [List.map_cons, List.map_map]; rfl
  rw [e6]
  have g6 : Grow H3 (upd H5 q2 (.lst ((s :: (List.range (w + 1)).map fun i => line.take i).map tx))) := (g1.trans g5).new hq2
  have h26 : upd H5 q2 (.lst ((s :: (List.range (w + 1)).map fun i => line.take i).map tx)) q2 = some (.lst ((s :: (List.range (w + 1)).map fun i => line.take i).map tx)) := upd_same
  have hq20 : H3 q2 = none := by
    cases e : H3 q2 with
    | none => rfl
    | some o => rw [(g1.trans g5) _ _ e] at hq2; cases hq2
  generalize upd H5 q2 (.lst ((s :: (List.range (w + 1)).map fun i => line.take i).map tx)) = H6 at g6 h26
  show wS K W (.cons (.ex (.mt .extend (.v 8) _)) _) D [some (.ref p), some (.int w), some (tx line), some (.ref l), s4, s5, s6, some (tx s), some (.ref q2), none] H6
  refine ⟨⟨_, h26⟩, ?_⟩
  refine ⟨_, _, rfl, ⟨by decide, by decide, by omega, by omega⟩, fun D2 hD2 => ?_⟩
  rw [show ((w : Int) + 1 - 1).toNat = w by omega]
  refine lc_map walk_range (fun i => tx (turn (line.take (i + 1)))) (by omega) hD2 (fun _ _ => trivial) (fun i x H7 H8 hi g7 y => ?_) (fun H7 g7 hD7 => ?_)
  · obtain ⟨rfl, rfl⟩ := y
    refine ⟨Grow.refl, fun R N hR => ⟨rfl, ?_⟩⟩
    show wE K W0 (.call (sp__law_turned K A) (.cons (.slc (.v 2) (.nil) (.cons (.v 9) .nil)) (.nil)) (.nil) [.p 0]) [some (.ref p), some (.int w), some (tx line), some (.ref l), s4, s5, s6, some (tx s), some (.ref q2), some (.int ((1 : Int) + (i : Nat)))] H8 R
    refine ⟨by rw [T_len]; omega, ?_⟩
    rw [show (1 : Int) + (i : Nat) = ((i + 1 : Nat) : Int) by omega, cut_to]
    refine ⟨line.take (i + 1), rfl, take_ne ll hi, by rw [List.length_take]; omega, bl.take _, fun H' g' => hR _ g'⟩
  refine ⟨_, _, g7 _ _ h26, hD7, by rw [List.length_map, List.length_map, List.length_cons, List.length_map, List.length_range, List.length_range]; omega, ?_⟩
  have e8 : (s :: (List.range (w + 1)).map fun i => line.take i).map tx ++ (List.range w).map (fun i => tx (turn (line.take (i + 1)))) = (freshL line s w).map tx := by unfold freshL; rw [List.map_append, List.map_map (l := List.range w)]; rfl
  rw [e8]
  have g8 : Grow H3 (upd H7 q2 (.lst ((freshL line s w).map tx))) := fun b o e => by rw [upd_ne (ne_of_none e hq20)]; exact g7 _ _ (g6 _ _ e)
  have h28 : upd H7 q2 (.lst ((freshL line s w).map tx)) q2 = some (.lst ((freshL line s w).map tx)) := upd_same
  generalize upd H7 q2 (.lst ((freshL line s w).map tx)) = H8 at g8 h28
  have hl8 := g8 _ _ hl
  show wS K W (.cons (.ex (.mt .append (.v 3) (.cons (.sub (.lc (.v 9) (.v 9) (.v 8) (.cons (.cmp .NotIn (.v 9) (.v 3)) .nil) [9]) (.c (.int 0))) (.nil)))) (.nil)) D [some (.ref p), some (.int w), some (tx line), some (.ref l), s4, s5, s6, some (tx s), some (.ref q2), none] H8
  refine ⟨⟨_, hl8⟩, ?_⟩
  refine Or.inl ⟨⟨_, SqL.of h28⟩, fun D3 hD3 => ?_⟩
  have hfl : (freshL line s w).length ≤ 300 := by unfold freshL; simp; omega
  refine lc_it (walk_list (xs := (freshL line s w).map tx)) (fun i H9 => Grow H8 H9 ∧ H9 D3 = some (.lst ((((freshL line s w).take i).filter fun x => decide (x ∉ ks)).map tx))) ⟨Grow.refl.new hD3, upd_same⟩ (fun i H9 _ h => SqL.of (h.1 _ _ h28)) (fun i x H9 H10 hi h y => ?_) (fun H9 h => ?_)
  · obtain ⟨rfl, ex⟩ := y
    obtain ⟨u, eu, rfl⟩ := get_tx ex
    obtain ⟨g9, hD9⟩ := h
    refine ⟨rfl, ?_⟩
    show rCmp K .NotIn (tx u) (.ref l) H10 _
    refine Or.inl ⟨l, ks.map tx, rfl, .inl (SqL.of (g9 _ _ hl8)), rfl, flat_tx ks, ?_⟩
    show if (!inV (tx u) (ks.map tx)) = true then _ else _
    rw [inV_tx]
    by_cases hu : u ∈ ks
    · rw [decide_eq_true hu, if_neg (by decide)]
      refine ⟨g9, ?_⟩
      rw [hD9, take_snoc eu, List.filter_append]
      simp [hu]
    · rw [decide_eq_false hu, if_pos (by decide)]
      have hlen := List.length_filter_le (fun x => decide (x ∉ ks)) ((freshL line s w).take i)
      refine ⟨_, hD9, by rw [List.length_map]; rw [List.length_take] at hlen; omega, fun b o e => by rw [upd_ne (ne_of_none e hD3)]; exact g9 _ _ e, ?_⟩
      rw [upd_same, take_snoc eu, List.filter_append, List.map_append]
      simp [hu]
  obtain ⟨g9, hD9⟩ := h
  rw [List.length_map, List.take_length] at hD9
  obtain ⟨u, r, eu⟩ := fresh_some (s := s) ll bl w1 (show ks.length ≤ 40 by omega)
  rw [eu] at hD9
  have hmu : u ∈ (freshL line s w).filter (fun x => decide (x ∉ ks)) := by rw [eu]; exact List.mem_cons_self
  have hmu2 := List.mem_filter.mp hmu
  have hun : u ∉ ks := by simpa using hmu2.2
  have oku := fresh_ok ll bl bs ls u hmu2.1
  refine Or.inl ⟨D3, _, 0, tx u, rfl, rfl, SqL.of hD9, (by unfold atI ixN; rw [if_pos (by decide), if_pos (by simp)]; rfl), ?_⟩
  refine ⟨_, g9 _ _ hl8, by rw [List.length_map]; omega, ?_⟩
  have gB := g8.trans g9
  refine hD _ _ ⟨ks ++ [u], s4, s5, s6, some (tx s), some (.ref q2), rfl, by simp [hk], ?_, ?_, Chg.fresh (c3.trans (Chg.of_grow c3.pot gB)) hl0 nlp, ?_⟩
  · rw [List.nodup_append]
    exact ⟨nd, by simp, fun a ha b hb e => hun (by have : b = u := by simpa using hb
                                                   exact this ▸ e ▸ ha)⟩
  · intro x hx
    rcases List.mem_append.mp hx with h | h
    · exact ok x h
    · rw [List.mem_singleton.mp h]; exact oku
  · rw [upd_same, List.map_append]; rfl
end L17

set_option maxRecDepth 100000
set_option maxHeartbeats 1000000
namespace L17
open PySem PySem.Spec L2 CW
variable {K : PySem.W.Frag} {W : WX} {A : Ad}
theorem rd_law_parts (vs : List V) (H : Hp) (Q : VK) (R : XK) (h : sp__law_parts K A vs H Q R) : vs.length = 2 ∧ wS K W (b__law_parts K A) (Dn Q) (start N__law_parts vs) H := by
  obtain ⟨p, w, rfl, hp, w1, w2, q⟩ := h
  have hz : (sizeLine : Nat) = 16777216 := sizeLine_eq
  refine ⟨rfl, p, w, w, rfl, hp, Nat.le_refl _, by omega, fun line H1 l1 l2 bl c1 => ?_⟩
  have ll : line.length = w := by omega
  refine ⟨Nat.zero_le _, fun l hl1 => ⟨by show 2 ≤ sizeLine; decide, fun t0 ht0 => ?_⟩⟩
  refine ⟨t0, _, rfl, .inl (.inl upd_same), rfl, _, _, rfl, _, _, rfl, rfl, ?_⟩
  have hl0 : H l = none := c1.free hp hl1
  have nlp : l ≠ p := Chg.ne c1.pot hl1
  have c2 := (c1.new (o := .lst []) hl1).new (o := .tup [tx line, .ref l]) ht0
  have hl2 : upd (upd H1 l (.lst [])) t0 (.tup [tx line, .ref l]) l = some (.lst []) := keepA upd_same ht0
  generalize upd (upd H1 l (.lst [])) t0 (.tup [tx line, .ref l]) = H2 at c2 hl2
  show wS K W (.cons (.for_ (.v 4) (.rng1 (.cons (.call (sp__law_among K A) (.cons (.v 0) (.cons (.lst (.cons (.c (.int 0)) (.cons (.c (.int 1)) (.cons (.c (.int 5)) (.cons (.c (.int 20)) (.cons (.c (.int 40)) (.cons (.c (.int 40)) (.nil)))))))) (.nil))) (.nil) [.p 0, .p 1]) (.nil))) _) _) _ [some (.ref p), some (.int w), some (tx line), some (.ref l), none, none, none, none, none, none] H2
  refine ⟨by show 6 ≤ sizeLine; decide, fun q0 hq0 => ?_⟩
  have nq0 : q0 ≠ p := Chg.ne c2.pot hq0
  refine ⟨p, .ref q0, rfl, (c2.new hq0).pot, .inl ⟨q0, _, rfl, nq0, SqL.of upd_same, by show 0 < 6; decide, by show 6 < 1000000; decide, fun v H3 hv c3 => ?_⟩⟩
  obtain ⟨n, rfl, hn⟩ : ∃ n : Nat, v = .int n ∧ n ≤ 40 := by
    simp only [List.mem_cons, List.not_mem_nil, or_false] at hv
    rcases hv with rfl | rfl | rfl | rfl | rfl | rfl
    · exact ⟨0, rfl, by decide⟩
    · exact ⟨1, rfl, by decide⟩
    · exact ⟨5, rfl, by decide⟩
    · exact ⟨20, rfl, by decide⟩
    · exact ⟨40, rfl, by decide⟩
    · exact ⟨40, rfl, by decide⟩
  have hl3 := c3.old l _ nlp (keepA (o' := .lst [.int 0, .int 1, .int 5, .int 20, .int 40, .int 40]) hl2 hq0)
  refine rng_go (n := n) (by omega) (PI p l w line H) ⟨[], none, none, none, none, none, rfl, rfl, List.nodup_nil, fun x hx => (nomatch hx), (c2.new hq0).trans c3, hl3⟩ (fun k σ H4 hk h => ?_) (fun σ H4 h => ?_)
  · obtain ⟨ks, s4, s5, s6, s7, s8, rfl, hks, nd, ok, c4, hl4⟩ := h
    refine ⟨p, w + 1, rfl, c4.pot, by omega, by omega, fun da H5 d0 d1 c5 => ?_⟩
    obtain ⟨at_, rfl⟩ := Int.eq_ofNat_of_zero_le d0
    refine ⟨p, 5, rfl, (c4.trans c5).pot, by omega, by omega, fun way H6 e0 e1 c6 => ?_⟩
    have c46 := (c4.trans c5).trans c6
    have hl6 := c6.old _ _ nlp (c5.old _ _ nlp hl4)
    refine ⟨_, _, rfl, ?_⟩
    refine ⟨by rw [T_len]; omega, ?_⟩
    rw [cut_to]
    have bt := bl.take at_
    have lt : (line.take at_).length = at_ := take_len ll (by omega)
    have fin : ∀ (D : Ends), (∀ σ' H', PI p l w line H (k + 1) σ' H' → D.nx σ' H') → ∀ s H7, Bt s → s.length ≤ w → Chg p H6 H7 → wS K W (restB K A) D [some (.ref p), some (.int w), some (tx line), some (.ref l), some (.int (k : Nat)), some (.int (at_ : Nat)), some (.int way), some (tx s), s8, none] H7 := fun D hD s H7 bs ls c7 =>
      rd_rest hD w1 w2 ll bl bs ls hks (by omega) nd ok nlp hl0 (c46.trans c7) (c7.old _ _ nlp hl6)
    show wS K W (.cons (.ite (.and (.cmp .Eq (.v 6) (.c (.int 1))) (.cmp .NotEq (.v 7) (.c (.str "")))) _ _) (restB K A)) _ [some (.ref p), some (.int w), some (tx line), some (.ref l), some (.int (k : Nat)), some (.int (at_ : Nat)), some (.int way), some (tx (line.take at_)), s8, none] H6
    have r6 := Chg.refl c46.pot
    have other : ∀ (D : Ends), (∀ σ' H', PI p l w line H (k + 1) σ' H' → D.nx σ' H') → wS K W (.cons (.ite (.cmp .Eq (.v 6) (.c (.int 2))) (.cons (.set (.v 7) (.bin .Add (.v 7) (.call (sp__law_bits K A) (.cons (.v 0) (.cons (.c (.int 0)) (.cons (.bin .Sub (.v 1) (.v 5)) (.nil)))) (.nil) [.p 0, .p 1, .p 2]))) (.nil)) (.cons (.ite (.cmp .Eq (.v 6) (.c (.int 3))) (.cons (.set (.v 7) (.call (sp__law_bits K A) (.cons (.v 0) (.cons (.c (.int 0)) (.cons (.c (.int 6)) (.nil)))) (.nil) [.p 0, .p 1, .p 2])) (.nil)) (.cons (.ite (.cmp .Eq (.v 6) (.c (.int 4))) (.cons (.set (.v 7) (.slc (.v 2) (.nil) (.cons (.bi .min (.cons (.v 1) (.cons (.bi .len (.cons (.v 3) (.nil))) (.nil)))) .nil))) (.nil)) (.nil)) (.nil))) (.nil))) (.nil)) { D with nx := wS K W (restB K A) D } [some (.ref p), some (.int w), some (tx line), some (.ref l), some (.int (k : Nat)), some (.int (at_ : Nat)), some (.int way), some (tx (line.take at_)), s8, none] H6 := by
      intro D hD
      refine ⟨rfl, ?_⟩
      show if decide (V.int way = V.int 2) = true then _ else _
      by_cases hw2 : way = 2
      · rw [if_pos (by simp [hw2])]
        refine ⟨p, 0, w - at_, ?_, r6.pot, by omega, by omega, fun a H7 _ a2 ba c7 => ?_⟩
        · show [V.ref p, V.int 0, V.int ((w : Int) - (at_ : Int))] = _
          rw [show ((w : Int) - (at_ : Int)) = ((w - at_ : Nat) : Int) by omega]; rfl
        refine ⟨by rw [T_len, T_len]; omega, ?_⟩
        rw [T_app]
        exact fin D hD _ H7 (bt.app ba) (by rw [List.length_append]; omega) c7
      rw [if_neg (by simpa using hw2)]
      refine ⟨rfl, ?_⟩
      show if decide (V.int way = V.int 3) = true then _ else _
      by_cases hw3 : way = 3
      · rw [if_pos (by simp [hw3])]
        exact ⟨p, 0, 6, rfl, r6.pot, by omega, by omega, fun a H7 _ a2 ba c7 => fin D hD _ H7 ba (by omega) c7⟩
      rw [if_neg (by simpa using hw3)]
      refine ⟨rfl, ?_⟩
      show if decide (V.int way = V.int 4) = true then _ else _
      by_cases hw4 : way = 4
      · rw [if_pos (by simp [hw4])]
        refine Or.inl ⟨_, SqL.of hl6, ?_⟩
        refine ⟨by rw [T_len]; omega, ?_⟩
        rw [List.length_map]
        have em : (if ((ks.length : Nat) : Int) < (w : Int) then ((ks.length : Nat) : Int) else (w : Int)) = ((min ks.length w : Nat) : Int) := by split <;> omega
        rw [em, cut_to]
        exact fin D hD _ H6 (bl.take _) (by rw [List.length_take]; omega) r6
      rw [if_neg (by simpa using hw4)]
      exact fin D hD _ H6 bt (by omega) r6
    refine ⟨rfl, ?_⟩
    show if decide (V.int way = V.int 1) = true then _ else _
    by_cases hw1 : way = 1
    · rw [if_pos (by simp [hw1])]
      refine ⟨rfl, ?_⟩
      show if (!decide (tx (line.take at_) = V.str "")) = true then _ else _
      rw [nilT, dec_tx]
      by_cases hn0 : line.take at_ = []
      · rw [decide_eq_true hn0, if_neg (by decide)]
        exact other _ fun _ _ h => h
      · rw [decide_eq_false hn0, if_pos (by decide)]
        have tb := turn_bt bt hn0
        exact ⟨line.take at_, rfl, hn0, by omega, bt, fun H7 g7 => fin _ (fun _ _ h => h) _ H7 tb.1 (by rw [tb.2]; omega) (Chg.of_grow r6.pot g7)⟩
    · rw [if_neg (by simpa using hw1)]
      exact other _ fun _ _ h => h
  · obtain ⟨ks, s4, s5, s6, s7, s8, rfl, hks, nd, ok, c4, hl4⟩ := h
    refine ⟨by show 2 ≤ sizeLine; decide, fun t ht => ?_⟩
    exact q line ks t l _ ll bl (by omega) nd ok (c4.free hp ht) hl0 (c4.new ht) upd_same (keepA hl4 ht)
end L17

set_option maxRecDepth 100000
set_option maxHeartbeats 1000000
namespace L17
open PySem PySem.Spec L2 CW
variable {K : PySem.W.Frag} {W : WX} {A : Ad}
def okG (x : List Nat) : Prop := x.length ≤ 6 ∧ isGoal (tx x) = true
theorem aT : ("a" : Str) = T [97] := by decide +kernel
theorem bT : ("b" : Str) = T [98] := by decide +kernel
theorem cT : ("c" : Str) = T [99] := by decide +kernel
theorem zzT : ("zz" : Str) = T [122, 122] := by decide +kernel
theorem homeT : ("home" : Str) = T [104, 111, 109, 101] := by decide +kernel
theorem drawnE {p l : Addr} {w : Nat} {line : List Nat} {ks : List (List Nat)} {H : Hp} {Q : VK} (hp : Pot H p) (nlp : l ≠ p) (hl : H l = some (.lst (ks.map tx))) (nd : ks.Nodup) (hk : ks.length ≤ 40)
    (q : ∀ g e H', (∀ s ∈ ks, okG (g s)) → H e = none → Chg p H H' → KG H' e ks g → Q (.ref e) H') :
    wE K W (.own .dict (.lc (.tup (.cons (.v 14) (.cons (.call (sp__law_among K A) (.cons (.v 0) (.cons (.lst (.cons (.c (.str "a")) (.cons (.c (.str "b")) (.cons (.c (.str "c")) (.cons (.c (.str "home")) (.cons (.c (.str "hole")) (.nil))))))) (.nil))) (.nil) [.p 0, .p 1]) (.nil)))) (.v 14) (.v 3) (.nil) [14]) .nil .nil)
      [some (.ref p), some (.int w), some (tx line), some (.ref l), none, none, none, none, none, none, none, none, none, none, none] H Q := by
  have hz : (sizeLine : Nat) = 16777216 := sizeLine_eq
  refine Or.inl ⟨⟨_, SqL.of hl⟩, fun D hD => ?_⟩
  have nDp : D ≠ p := Chg.ne hp hD
  refine lc_it (walk_list (xs := ks.map tx)) (fun i Hc => Chg p H Hc ∧ ∃ (g : List Nat → List Nat) (ps : List Addr), (∀ s ∈ ks.take i, okG (g s)) ∧ Hc D = some (.lst (ps.map V.ref)) ∧ ps.length = i ∧ Paired (fun a (kv : Key × V) => Hc a = some (.tup [kV kv.1, kv.2])) ps (kvG (ks.take i) fun s => tx (g s)))
    ⟨(Chg.refl hp).new hD, fun _ => [], [], fun s hs => (nomatch hs), upd_same, rfl, .nil⟩ (fun i Hc _ h => SqL.of (h.1.old l _ nlp hl)) (fun i x Hc Hc' hi h y => ?_) (fun Hc h => ?_)
  · obtain ⟨rfl, ex⟩ := y
    obtain ⟨u, eu, rfl⟩ := get_tx ex
    obtain ⟨ch, g, ps, og, hcD, hps, hpd⟩ := h
    refine ⟨rfl, ?_⟩
    refine ⟨by show 5 ≤ sizeLine; decide, fun q0 hq0 => ?_⟩
    have nq0 : q0 ≠ p := Chg.ne ch.pot hq0
    refine ⟨p, .ref q0, rfl, (ch.new hq0).pot, .inl ⟨q0, _, rfl, nq0, SqL.of upd_same, by show 0 < 5; decide, by show 5 < 1000000; decide, fun v H5 hv c5 => ?_⟩⟩
    obtain ⟨x, rfl, hx⟩ : ∃ x, v = tx x ∧ okG x := by
      simp only [List.mem_cons, List.not_mem_nil, or_false] at hv
      rcases hv with rfl | rfl | rfl | rfl | rfl
      · exact ⟨[97], by rw [aT], by unfold okG; decide +kernel⟩
      · exact ⟨[98], by rw [bT], by unfold okG; decide +kernel⟩
      · exact ⟨[99], by rw [cT], by unfold okG; decide +kernel⟩
      · exact ⟨[104, 111, 109, 101], by rw [homeT], by unfold okG; decide +kernel⟩
      · exact ⟨[104, 111, 108, 101], by rw [holeT], by unfold okG; decide +kernel⟩
    refine ⟨by show 2 ≤ sizeLine; decide, fun T0 hT => ?_⟩
    have k5 : ∀ b o, b ≠ p → Hc' b = some o → H5 b = some o := fun b o nb e => c5.old b o nb (keepA e hq0)
    have ntu : ∀ {a xs}, Hc' a = some (.tup xs) → a ≠ p := fun {a xs} e c => by
      obtain ⟨x1, x2, e', _⟩ := ch.pot
      rw [c, e'] at e; cases e
    have hD5 := k5 D _ nDp hcD
    have nTD : T0 ≠ D := fun c => by rw [c, hD5] at hT; cases hT
    have hni : u ∉ ks.take i := fun c => by
      obtain ⟨j, hj, e⟩ := List.mem_iff_getElem.mp c
      rw [List.length_take] at hj
      have e2 : ks[j]? = some u := by rw [← e, List.getElem_take]; exact List.getElem?_eq_getElem _
      have := (List.getElem?_inj (by omega) nd).mp (e2.trans eu.symm)
      omega
    have cN : Chg p H H5 := (ch.new hq0).trans c5
    refine ⟨_, keepA hD5 hT, by rw [List.length_map] at hi ⊢; omega, Chg.fresh (cN.new hT) hD nDp, setG g u x, ps ++ [T0], fun s hs => ?_, by rw [upd_same, List.map_append]; rfl, by simp [hps], ?_⟩
    · unfold setG
      split
      · exact hx
      · rename_i hne
        rw [take_snoc eu] at hs
        rcases List.mem_append.mp hs with h | h
        · exact og s h
        · exact absurd (List.mem_singleton.mp h) hne
    · rw [take_snoc eu]
      have e1 : kvG (ks.take i) (fun s => tx (g s)) = kvG (ks.take i) fun s => tx (setG g u x s) := by
        refine List.map_congr_left fun s hs => ?_
        have : setG g u x s = g s := if_neg (fun c => hni (by rw [← c]; exact hs))
        show (ky s, tx (g s)) = (ky s, tx (setG g u x s))
        rw [this]
      have e2 : kvG (ks.take i ++ [u]) (fun s => tx (setG g u x s)) = kvG (ks.take i) (fun s => tx (setG g u x s)) ++ [(ky u, tx x)] := by
        simp only [kvG, List.map_append, List.map_cons, List.map_nil]
        have : setG g u x u = x := if_pos rfl
        rw [this]
      rw [e2]
      rw [e1] at hpd
      refine Paired.snoc (Paired.mono (fun a kv e => ?_) hpd) (by rw [upd_ne nTD]; exact upd_same)
      rw [upd_ne (fun c => by rw [c, hcD] at e; cases e)]; exact keepA (k5 _ _ (ntu e) e) hT
  obtain ⟨ch, g, ps, og, hcD, hps, hpd⟩ := h
  rw [show (ks.map tx).length = ks.length from List.length_map .., List.take_length] at og hpd
  refine Or.inl ⟨D, ps, _, rfl, SqL.of hcD, Paired.mono (fun a kv e => .inl (.inl e)) hpd, fun e1 he1 => ?_⟩
  have em : mergeK [] (kvG ks fun s => tx (g s)) = kvG ks fun s => tx (g s) := mergeK_kvG (ks := []) (by simpa using nd)
  rw [em]
  exact q g e1 _ og (ch.free hp he1) (ch.new he1) (KD.of nd upd_same)
/-! the chain -/
def chK (line : List Nat) (w m i : Nat) : List (List Nat) := (((List.range i).map fun j => m - 1 - j).filter fun n => decide (n ≤ w)).map fun n => line.take n
def chG (s : List Nat) : List Nat := [97 + s.length % 10]
theorem chG_ok (s : List Nat) : okG (chG s) := by
  unfold chG
  have : ∀ k < 10, ([97 + k] : List Nat).length ≤ 6 ∧ isGoal (tx [97 + k]) = true := by decide +kernel
  exact this _ (Nat.mod_lt _ (by decide))
theorem chK_snoc {line : List Nat} {w m i : Nat} : chK line w m (i + 1) = chK line w m i ++ if m - 1 - i ≤ w then [line.take (m - 1 - i)] else [] := by
  unfold chK
  rw [List.range_succ, List.map_append, List.filter_append, List.map_append]
  congr 1
  by_cases h : m - 1 - i ≤ w
  · simp [h]
  · simp [h]
theorem chK_len {line : List Nat} {w m i : Nat} : (chK line w m i).length ≤ i := by
  unfold chK
  rw [List.length_map]
  refine Nat.le_trans (List.length_filter_le _ _) ?_
  simp
theorem chK_mem {line x : List Nat} {w m i : Nat} (h : x ∈ chK line w m i) : ∃ j < i, m - 1 - j ≤ w ∧ x = line.take (m - 1 - j) := by
  unfold chK at h
  obtain ⟨n, hn, rfl⟩ := List.mem_map.mp h
  obtain ⟨h1, h2⟩ := List.mem_filter.mp hn
  obtain ⟨j, hj, rfl⟩ := List.mem_map.mp h1
  exact ⟨j, List.mem_range.mp hj, by simpa using h2, rfl⟩
theorem chK_nodup {line : List Nat} {w m : Nat} (hl : line.length = w) : ∀ i, i ≤ m → (chK line w m i).Nodup
  | 0, _ => List.nodup_nil
  | i + 1, hi => by
    rw [chK_snoc]
    split
    · rename_i h
      rw [List.nodup_append]
      refine ⟨chK_nodup hl i (by omega), by simp, fun a ha b hb e => ?_⟩
      obtain ⟨j, hj, hjw, rfl⟩ := chK_mem ha
      have : b = line.take (m - 1 - i) := by simpa using hb
      rw [this] at e
      have := congrArg List.length e
      rw [take_len hl hjw, take_len hl h] at this
      omega
    · rw [List.append_nil]; exact chK_nodup hl i (by omega)
theorem abT (k : Nat) (h : k < 10) : atI ("abcdefghij" : Str).cps.toList (k : Int) = some (97 + k) := by
  have : ∀ k : Nat, k < 10 → atI ("abcdefghij" : Str).cps.toList (k : Int) = some (97 + k) := by decide +kernel
  exact this k h
theorem chainE {p : Addr} {w : Nat} {line : List Nat} {H : Hp} {Q : VK} {σ : L2.St} (h1 : σ[1]? = some (some (.int w))) (h2 : σ[2]? = some (some (tx line))) (h13 : 13 < σ.length) (ll : line.length = w) (hw : w ≤ 100) {er : E}
    (he : ∀ Q1 : VK, (∀ (m : Nat) H1, 1 ≤ m → m ≤ 40 → Chg p H H1 → Q1 (.int ((m : Int) - 1)) H1) → wE K W er σ H Q1) (hp : Pot H p)
    (q : ∀ m e H', m ≤ 40 → H e = none → Chg p H H' → KG H' e (chK line w m m) chG → Q (.ref e) H') :
    wE K W (.own .dict (.lc (.tup (.cons (.slc (.v 2) (.nil) (.cons (.v 13) .nil)) (.cons (.sub (.c (.str "abcdefghij")) (.bin .Mod (.bi .int (.cons (.v 13) (.nil))) (.c (.int 10)))) (.nil)))) (.v 13) (.rng3 (.cons er (.cons (.un .USub (.c (.int 1))) (.cons (.un .USub (.c (.int 1))) (.nil))))) (.cons (.cmp .LtE (.v 13) (.v 1)) .nil) [13]) .nil .nil) σ H Q := by
  have hz : (sizeLine : Nat) = 16777216 := sizeLine_eq
  refine e_dict (e_lc ?_)
  refine he _ fun m H1 hm1 hm c1 => ?_
  refine ⟨_, _, _, _, rfl, RgC.neg (by omega) (by omega) (by decide) (by decide), fun D hD => ?_⟩
  rw [show ((m : Int) - 1 - (-1)).toNat = m by omega]
  refine lc_it walk_rangeC (fun i Hc => Grow H1 Hc ∧ ∃ ps : List Addr, Hc D = some (.lst (ps.map V.ref)) ∧ ps.length ≤ i ∧ Paired (fun a (kv : Key × V) => Hc a = some (.tup [kV kv.1, kv.2])) ps (kvG (chK line w m i) fun s => tx (chG s)))
    ⟨Grow.refl.new hD, [], upd_same, Nat.le_refl _, .nil⟩ (fun _ _ _ _ => trivial) (fun i x Hc Hc' hi h y => ?_) (fun Hc h => ?_)
  · obtain ⟨rfl, rfl⟩ := y
    obtain ⟨gr, ps, hcD, hps, hpd⟩ := h
    have ei : (m : Int) - 1 + (i : Nat) * (-1) = ((m - 1 - i : Nat) : Int) := by omega
    show wG K W0 (.v 13) (.int ((m : Int) - 1 + (i : Nat) * (-1))) (wipe σ [13]) Hc' _
    rw [ei]
    have ga : ((wipe σ [13]).set 13 (some (.int ((m - 1 - i : Nat) : Int))))[13]? = some (some (.int ((m - 1 - i : Nat) : Int))) := wipe_own h13
    have gb : ((wipe σ [13]).set 13 (some (.int ((m - 1 - i : Nat) : Int))))[1]? = some (some (.int w)) := by rw [wipe_get (by decide)]; exact h1
    have gc : ((wipe σ [13]).set 13 (some (.int ((m - 1 - i : Nat) : Int))))[2]? = some (some (tx line)) := by rw [wipe_get (by decide)]; exact h2
    refine ⟨wipe_set .., ?_⟩
    refine c_cons (t_cmp (wE_v ga (wE_v gb ?_)))
    show if decide (((m - 1 - i : Nat) : Int) ≤ (w : Int)) = true then _ else _
    rw [chK_snoc]
    by_cases hle : m - 1 - i ≤ w
    · rw [if_pos (by simpa using hle), if_pos hle]
      refine e_tup (a_cons (e_slc (wE_v gc (o_nil (o_cons (wE_v ga ?_))))))
      refine ⟨by rw [T_len]; omega, ?_⟩
      rw [cut_to]
      refine a_cons (e_sub ?_)
      refine e_bin (e_bi (a_cons (wE_v ga ?_)))
      refine ⟨by decide, by decide, 97 + (m - 1 - i) % 10, ?_, ?_⟩
      · rw [show ((m - 1 - i : Nat) : Int) % 10 = (((m - 1 - i) % 10 : Nat) : Int) by omega]
        exact abT _ (Nat.mod_lt _ (by decide))
      refine ⟨by show 2 ≤ sizeLine; decide, fun T0 hT => ?_⟩
      have nTD : T0 ≠ D := fun c => by rw [c, hcD] at hT; cases hT
      refine ⟨_, keepA hcD hT, by rw [List.length_map]; omega, fun b o e => by rw [upd_ne (ne_of_none e hD)]; exact keepA (gr _ _ e) hT, ps ++ [T0], by rw [upd_same, List.map_append]; rfl, by simp; omega, ?_⟩
      simp only [kvG, List.map_append]
      refine Paired.snoc (Paired.mono (fun a kv e => ?_) hpd) ?_
      · rw [upd_ne (fun c => by rw [c, hcD] at e; cases e)]; exact keepA e hT
      · rw [upd_ne nTD, upd_same]
        show some (HO.tup [tx (line.take (m - 1 - i)), tx [97 + (m - 1 - i) % 10]]) = some (HO.tup [tx (line.take (m - 1 - i)), tx (chG (line.take (m - 1 - i)))])
        unfold chG
        rw [take_len ll hle]
    · rw [if_neg (by simpa using hle), if_neg hle, List.append_nil]
      exact ⟨gr, ps, hcD, by omega, hpd⟩
  obtain ⟨gr, ps, hcD, hps, hpd⟩ := h
  refine Or.inl ⟨D, ps, _, rfl, SqL.of hcD, Paired.mono (fun a kv e => .inl (.inl e)) hpd, fun e1 he1 => ?_⟩
  have nd := chK_nodup (m := m) ll m (Nat.le_refl _)
  have em : mergeK [] (kvG (chK line w m m) fun s => tx (chG s)) = kvG (chK line w m m) fun s => tx (chG s) := mergeK_kvG (ks := []) (by simpa using nd)
  rw [em]
  have cc := c1.trans (Chg.of_grow c1.pot gr)
  exact q m e1 _ hm (cc.free hp he1) (cc.new he1) (KD.of nd upd_same)
end L17

set_option maxRecDepth 100000
set_option maxHeartbeats 1000000
namespace L17
open PySem PySem.Spec L2 CW
variable {K : PySem.W.Frag} {W : WX} {A : Ad}
def forB (K : PySem.W.Frag) (A : Ad) : S := .cons (.set (.v 7) (.call (sp__law_place K A) (.cons (.v 0) (.cons (.v 1) (.cons (.v 2) (.cons (.v 3) (.nil))))) (.nil) [.p 0, .p 1, .p 2, .p 3])) (.cons (.ite (.not (.call (sp__law_is_right K A) (.cons (.v 5) (.cons (.v 4) (.cons (.v 7) (.nil)))) (.nil) [.p 0, .p 1, .p 2])) (.cons (.ret (.c (.bl false))) (.nil)) (.nil)) (.cons (.set (.v 8) (.call (sp__law_row K A) (.cons (.v 4) (.cons (.v 7) (.nil))) (.nil) [.p 0, .p 1])) (.cons (.ite (.cmp .IsNot (.v 8) (.c .non)) (.cons (.set (.v 9) (.own .dict (.lkE (.lc (.tup (.cons (.v 14) (.cons (.sub (.v 4) (.v 14)) (.nil)))) (.v 14) (.kd (.v 4)) (.cons (.cmp .NotEq (.v 14) (.v 8)) .nil) [14])) .nil .nil)) (.cons (.ite (.or (.not (.call (sp__law_is_right K A) (.cons (.own (.bin .Sub [(A.Table, sp_Table___sub__ K A, [.p 0, .p 1])]) (.v 5) (.cons (.v 8) .nil) .nil) (.cons (.v 9) (.cons (.v 7) (.nil)))) (.nil) [.p 0, .p 1, .p 2])) (.not (.call (sp__law_is_right K A) (.cons (.v 5) (.cons (.v 4) (.cons (.v 7) (.nil)))) (.nil) [.p 0, .p 1, .p 2]))) (.cons (.ret (.c (.bl false))) (.nil)) (.nil)) (.nil))) (.nil)) (.cons (.ite (.cmp .Lt (.bi .len (.cons (.v 4) (.nil))) (.c (.int 40))) (.cons (.set (.v 10) (.own .dict (.bin .Add (.own .listItems (.v 4) .nil .nil) (.lst (.cons (.tup (.cons (.v 7) (.cons (.c (.str "zz")) (.nil)))) (.nil)))) .nil .nil)) (.cons (.ite (.or (.cmp .NotEq (.own (.call [(A.Table, sp_Table___call__ K A, [.p 0, .p 1])]) (.own (.bin .Add [(A.Table, sp_Table___add__ K A, [.p 0, .p 1])]) (.v 5) (.cons (.tup (.cons (.v 7) (.cons (.c (.str "zz")) (.nil)))) .nil) .nil) (.cons (.v 7) (.nil)) (.nil)) (.c (.str "zz"))) (.not (.call (sp__law_is_right K A) (.cons (.own (.bin .Add [(A.Table, sp_Table___add__ K A, [.p 0, .p 1])]) (.v 5) (.cons (.tup (.cons (.v 7) (.cons (.c (.str "zz")) (.nil)))) .nil) .nil) (.cons (.v 10) (.cons (.v 2) (.nil)))) (.nil) [.p 0, .p 1, .p 2]))) (.cons (.ret (.c (.bl false))) (.nil)) (.nil)) (.nil))) (.nil)) (.nil)))))
/-- what holds ahead of each of the twelve turns -/
def P12 (K : PySem.W.Frag) (A : Ad) (p l d t r z : Addr) (w : Nat) (line : List Nat) (ks : List (List Nat)) (g : List Nat → List Nat) (H : Hp) (σ : L2.St) (H2 : Hp) : Prop :=
  ∃ s6 s7 s8 s9 s10 : Option V, σ = [some (.ref p), some (.int w), some (tx line), some (.ref l), some (.ref d), some (.ref t), s6, s7, s8, s9, s10, none, none, none, none] ∧ Chg p H H2 ∧ H2 l = some (.lst (ks.map tx)) ∧ KG H2 d ks g ∧ Tab A.Table H2 t r z w ks g
theorem goal_add {ks : List (List Nat)} {g : List Nat → List Nat} {a x : List Nat} : goalO (addK ks a) (setG g a x) a = x := by
  have : rowO (addK ks a) a = some a := rowO_some (mem_addK.mpr (.inr rfl)) (List.prefix_refl _) fun y _ h => h.length_le
  unfold goalO
  rw [this]
  exact if_pos rfl
theorem rd_for {p l d t r z : Addr} {w : Nat} {line : List Nat} {ks : List (List Nat)} {g : List Nat → List Nat} {H H2 : Hp} {σ : L2.St} {D : Ends} (w1 : 30 ≤ w) (w2 : w ≤ 100) (ll : line.length = w) (bl : Bt line) (hk : ks.length ≤ 40) (ok : StOk w ks)
    (nlp : l ≠ p) (ndp : d ≠ p) (ntp : t ≠ p) (nrp : r ≠ p) (nzp : z ≠ p) (hD : ∀ σ' H', P12 K A p l d t r z w line ks g H σ' H' → D.nx σ' H') {s6 s7 s8 s9 s10 : Option V} (hσ : σ = [some (.ref p), some (.int w), some (tx line), some (.ref l), some (.ref d), some (.ref t), s6, s7, s8, s9, s10, none, none, none, none])
    (c2 : Chg p H H2) (hl : H2 l = some (.lst (ks.map tx))) (kd : KG H2 d ks g) (tb : Tab A.Table H2 t r z w ks g) : wS K W (forB K A) D σ H2 := by
  subst hσ
  have hz : (sizeLine : Nat) = 16777216 := sizeLine_eq
  refine ⟨p, l, w, line, ks, rfl, c2.pot, w1, w2, ll, bl, hk, ok, nlp, hl, fun a H3 ba la c3 => ?_⟩
  have kd3 := kd.chg c3 ndp
  have tb3 := tb.chg c3 ntp nrp nzp
  have hl3 := c3.old _ _ nlp hl
  have cc3 := c2.trans c3
  refine ⟨t, r, z, d, w, ks, ks, g, g, a, rfl, tb3, kd3, fun _ => Iff.rfl, fun _ _ => rfl, ba, la, fun H4 g4 => ?_⟩
  have kd4 := kd3.grow g4
  have tb4 := tb3.grow g4
  have hl4 := g4 _ _ hl3
  have cc4 := cc3.trans (Chg.of_grow cc3.pot g4)
  clear kd3 tb3 hl3 cc3 c2 c3 kd tb hl g4
  refine ⟨d, ks, g, a, rfl, kd4, by omega, ?_⟩
  -- the last part
  have fin : ∀ (D : Ends), (∀ σ' H', P12 K A p l d t r z w line ks g H σ' H' → D.nx σ' H') → ∀ (s9 : Option V) H5, Grow H4 H5 → wS K W (.cons (.ite (.cmp .Lt (.bi .len (.cons (.v 4) (.nil))) (.c (.int 40))) (.cons (.set (.v 10) (.own .dict (.bin .Add (.own .listItems (.v 4) .nil .nil) (.lst (.cons (.tup (.cons (.v 7) (.cons (.c (.str "zz")) (.nil)))) (.nil)))) .nil .nil)) (.cons (.ite (.or (.cmp .NotEq (.own (.call [(A.Table, sp_Table___call__ K A, [.p 0, .p 1])]) (.own (.bin .Add [(A.Table, sp_Table___add__ K A, [.p 0, .p 1])]) (.v 5) (.cons (.tup (.cons (.v 7) (.cons (.c (.str "zz")) (.nil)))) .nil) .nil) (.cons (.v 7) (.nil)) (.nil)) (.c (.str "zz"))) (.not (.call (sp__law_is_right K A) (.cons (.own (.bin .Add [(A.Table, sp_Table___add__ K A, [.p 0, .p 1])]) (.v 5) (.cons (.tup (.cons (.v 7) (.cons (.c (.str "zz")) (.nil)))) .nil) .nil) (.cons (.v 10) (.cons (.v 2) (.nil)))) (.nil) [.p 0, .p 1, .p 2]))) (.cons (.ret (.c (.bl false))) (.nil)) (.nil)) (.nil))) (.nil)) (.nil)) D
      [some (.ref p), some (.int w), some (tx line), some (.ref l), some (.ref d), some (.ref t), s6, some (tx a), some (vO (rowO ks a)), s9, s10, none, none, none, none] H5 := by
    intro D hD s9 H5 g5
    have kd5 := kd4.grow g5
    have tb5 := tb4.grow g5
    have cc5 := cc4.trans (Chg.of_grow cc4.pot g5)
    have hl5 := g5 _ _ hl4
    refine Or.inr (Or.inr ⟨_, kd5.eq, ?_⟩)
    rw [show (kvG ks fun s => tx (g s)).length = ks.length from List.length_map ..]
    show if decide (((ks.length : Nat) : Int) < 40) = true then _ else _
    by_cases h40 : ks.length < 40
    · rw [if_pos (decide_eq_true (by omega))]
      refine st_setc (moreE (ea := .v 7) (eb := .c (.str "zz")) (s := a) (x := [122, 122]) (j := 4) (σ := [some (.ref p), some (.int w), some (tx line), some (.ref l), some (.ref d), some (.ref t), s6, some (tx a), some (vO (rowO ks a)), s9, s10, none, none, none, none]) rfl (by omega) kd5 (fun _ _ h => h) (fun H1 Q1 h => by show Q1 (.str "zz") H1; rw [zzT]; exact h) fun e H6 g6 he0 ke => ?_)
      have tb6 := tb5.grow g6
      obtain ⟨dx, ht6⟩ := tb6.at_
      have zg : ([122, 122] : List Nat).length ≤ 6 ∧ isGoal (tx [122, 122]) = true := by decide +kernel
      have ak : (addK ks a).length ≤ 40 := by unfold addK; split; exact hk; rw [List.length_append]; simp; omega
      refine ⟨by show 2 ≤ sizeLine; decide, fun q1 hq1 => ?_⟩
      have g7 := g6.new (o := .tup [tx a, .str "zz"]) hq1
      have hq1' : upd H6 q1 (.tup [tx a, .str "zz"]) q1 = some (.tup [tx a, .str "zz"]) := upd_same
      have gA : Grow H6 (upd H6 q1 (.tup [tx a, .str "zz"])) := Grow.refl.new hq1
      generalize upd H6 q1 (.tup [tx a, .str "zz"]) = H7 at g7 hq1' gA
      rw [zzT] at hq1'
      refine ⟨t, A.Table, dx, _, _, _, rfl, gA _ _ ht6, List.mem_singleton.mpr rfl, .inr (.inl ⟨q1, _, rfl, .inl (.inl hq1'), rfl⟩), t, r, z, q1, w, ks, g, a, [122, 122], rfl, tb6.grow gA, .inl (.inl hq1'), ba, by omega, zg.1, zg.2, ak, fun H8 t2 r2 z2 g8 _ _ _ tb2 => ?_⟩
      obtain ⟨dx2, ht2⟩ := tb2.at_
      refine ⟨t2, A.Table, dx2, _, _, _, rfl, ht2, List.mem_singleton.mpr rfl, ⟨dx2, _, ht2⟩, t2, r2, z2, w, _, _, a, rfl, tb2, ba, la, ?_⟩
      rw [goal_add]
      refine ⟨rfl, ?_⟩
      show if (!decide (tx [122, 122] = V.str "zz")) = true then _ else _
      have ez : decide (tx [122, 122] = V.str "zz") = true := by rw [zzT, dec_tx]; rfl
      rw [ez, if_neg (by decide)]
      have gB := gA.trans g8
      refine ⟨by show 2 ≤ sizeLine; decide, fun q3 hq3 => ?_⟩
      have hq3' : upd H8 q3 (.tup [tx a, .str "zz"]) q3 = some (.tup [tx a, .str "zz"]) := upd_same
      have gC : Grow H6 (upd H8 q3 (.tup [tx a, .str "zz"])) := gB.new hq3
      generalize upd H8 q3 (.tup [tx a, .str "zz"]) = H9 at hq3' gC
      rw [zzT] at hq3'
      refine ⟨t, A.Table, dx, _, _, _, rfl, gC _ _ ht6, List.mem_singleton.mpr rfl, .inr (.inl ⟨q3, _, rfl, .inl (.inl hq3'), rfl⟩), t, r, z, q3, w, ks, g, a, [122, 122], rfl, tb6.grow gC, .inl (.inl hq3'), ba, by omega, zg.1, zg.2, ak, fun H10 t3 r3 z3 g10 _ _ _ tb3 => ?_⟩
      have gD := gC.trans g10
      refine ⟨t3, r3, z3, e, w, _, _, _, _, line, rfl, tb3, ke.grow gD, fun _ => Iff.rfl, fun _ _ => rfl, bl, ll, fun H11 g11 => ?_⟩
      have gE := (g6.trans gD).trans g11
      exact hD _ _ ⟨_, _, _, _, _, rfl, cc5.trans (Chg.of_grow cc5.pot gE), gE _ _ hl5, kd5.grow gE, tb5.grow gE⟩
    · rw [if_neg (by rw [decide_eq_true_eq]; omega)]
      exact hD _ _ ⟨_, _, _, _, _, rfl, cc5, hl5, kd5, tb5⟩
  show wS K W (.cons (.ite (.cmp .IsNot (.v 8) (.c .non)) _ _) _) D [some (.ref p), some (.int w), some (tx line), some (.ref l), some (.ref d), some (.ref t), s6, some (tx a), some (vO (rowO ks a)), s9, s10, none, none, none, none] H4
  show if (!decide (vO (rowO ks a) = V.non)) = true then _ else _
  rcases rowO_cases ks a with ⟨e, _⟩ | ⟨s, e, h1, _⟩
  · rw [e, decide_eq_true rfl, if_neg (by decide)]
    have := fin D hD s9 H4 Grow.refl
    rw [e] at this
    exact this
  · rw [e, decide_eq_false (by intro c; cases c), if_pos (by decide)]
    refine st_setc (lessE (i := 14) (j := 4) (k := 8) (ks := ks) (g := g) (s := s) (σ := [some (.ref p), some (.int w), some (tx line), some (.ref l), some (.ref d), some (.ref t), s6, some (tx a), some (tx s), s9, s10, none, none, none, none]) (by show 14 < 15; decide) (by decide) (by decide) rfl rfl (by omega) kd4 fun e1 H5 g5 he1 le => ?_)
    have tb5 := tb4.grow g5
    obtain ⟨dx, ht5⟩ := tb5.at_
    refine ⟨t, A.Table, dx, _, _, _, rfl, ht5, List.mem_singleton.mpr rfl, .inl ⟨_, rfl, .inl rfl⟩, t, r, z, w, ks, g, s, rfl, tb5, h1, fun H6 t' r' z' g6 _ _ _ tb' => ?_⟩
    refine ⟨t', r', z', e1, w, _, _, g, g, a, rfl, tb', le.grow g6, fun _ => Iff.rfl, fun _ _ => rfl, ba, la, fun H7 g7 => ?_⟩
    have gA := (g5.trans g6).trans g7
    refine ⟨t, r, z, d, w, ks, ks, g, g, a, rfl, tb4.grow gA, kd4.grow gA, fun _ => Iff.rfl, fun _ _ => rfl, ba, la, fun H8 g8 => ?_⟩
    have := fin D hD (some (.ref e1)) H8 (gA.trans g8)
    rw [e] at this
    exact this
theorem RgC3 {w : Nat} (h : w = 30 ∨ w = 40 ∨ w = 64 ∨ w = 99 ∨ w = 100) : RgC 0 (w : Int) 3 ((w + 2) / 3) := by
  rcases h with rfl | rfl | rfl | rfl | rfl <;> exact ⟨by decide, by decide, by decide, by decide⟩
theorem rd_law_right (vs : List V) (H : Hp) (Q : VK) (R : XK) (h : sp__law_right K A vs H Q R) : vs.length = 1 ∧ wS K W (b__law_right K A) (Dn Q) (start N__law_right vs) H := by
  obtain ⟨p, rfl, hp, q⟩ := h
  have hz : (sizeLine : Nat) = 16777216 := sizeLine_eq
  refine ⟨rfl, by show 6 ≤ sizeLine; decide, fun q0 hq0 => ?_⟩
  have nq0 : q0 ≠ p := Chg.ne hp hq0
  have c0 := (Chg.refl hp).new (o := .lst [.int 30, .int 40, .int 64, .int 99, .int 100, .int 100]) hq0
  refine ⟨p, .ref q0, rfl, c0.pot, .inl ⟨q0, _, rfl, nq0, SqL.of upd_same, by show 0 < 6; decide, by show 6 < 1000000; decide, fun v H1 hv c1 => ?_⟩⟩
  obtain ⟨w, rfl, hw⟩ : ∃ w : Nat, v = .int w ∧ (w = 30 ∨ w = 40 ∨ w = 64 ∨ w = 99 ∨ w = 100) := by
    simp only [List.mem_cons, List.not_mem_nil, or_false] at hv
    rcases hv with rfl | rfl | rfl | rfl | rfl | rfl
    · exact ⟨30, rfl, by decide⟩
    · exact ⟨40, rfl, by decide⟩
    · exact ⟨64, rfl, by decide⟩
    · exact ⟨99, rfl, by decide⟩
    · exact ⟨100, rfl, by decide⟩
    · exact ⟨100, rfl, by decide⟩
  have w1 : 30 ≤ w := by omega
  have w2 : w ≤ 100 := by omega
  have cc1 := c0.trans c1
  refine ⟨p, w, rfl, cc1.pot, w1, w2, fun line ks t0 l H2 ll bl hk nd ok ht0 hl0 c2 ht hl => ?_⟩
  refine ⟨t0, _, rfl, .inl (.inl ht), rfl, _, _, rfl, _, _, rfl, rfl, ?_⟩
  have nlp : l ≠ p := Chg.ne cc1.pot hl0
  have cc2 := cc1.trans c2
  show wS K W (.cons (.set (.v 4) _) _) _ [some (.ref p), some (.int w), some (tx line), some (.ref l), none, none, none, none, none, none, none, none, none, none, none] H2
  refine st_setc (drawnE cc2.pot nlp hl nd hk fun g d H3 og hd0 c3 kd => ?_)
  have ndp : d ≠ p := Chg.ne cc2.pot hd0
  have cc3 := cc2.trans c3
  have hl3 := c3.old _ _ nlp hl
  have rok : RwOk w ks g := ⟨ok, fun s hs => og s hs⟩
  intro t tx0 ht3 htx hne0
  refine make_tabP (C := A.Table) (H := H3) (ks := ks) (g := g) ht3 htx hne0 Grow.refl (by omega) w2 hk kd rok fun H4 r z g4 ht0 hr0 hz0 tb => ?_
  have ntp : t ≠ p := Chg.ne c3.pot ht0
  have nrp : r ≠ p := Chg.ne c3.pot hr0
  have nzp : z ≠ p := Chg.ne c3.pot hz0
  have kd4 := kd.grow g4
  have cc4 := cc3.trans (Chg.of_grow cc3.pot g4)
  have hl4 := g4 _ _ hl3
  show wS K W (.cons (.ite (.or (.cmp .NotEq (.own (.len _) (.v 5) .nil .nil) _) _) _ _) _) _ [some (.ref p), some (.int w), some (tx line), some (.ref l), some (.ref d), some (.ref t), none, none, none, none, none, none, none, none, none] H4
  obtain ⟨dx, ht4⟩ := tb.at_
  refine ⟨t, A.Table, dx, _, _, _, rfl, ht4, List.mem_singleton.mpr rfl, t, r, z, w, ks, g, rfl, tb, ks.length, rfl, by omega, ?_⟩
  refine Or.inr (Or.inr ⟨_, kd4.eq, ?_⟩)
  rw [show (kvG ks fun s => tx (g s)).length = ks.length from List.length_map ..]
  refine ⟨rfl, ?_⟩
  show if (!decide (V.int (ks.length : Nat) = V.int (ks.length : Nat))) = true then _ else _
  rw [decide_eq_true rfl, if_neg (by decide)]
  refine ⟨t, r, z, d, w, ks, ks, g, g, line, rfl, tb, kd4, fun _ => Iff.rfl, fun _ _ => rfl, bl, ll, fun H5 g5 => ?_⟩
  have cc5 := cc4.trans (Chg.of_grow cc4.pot g5)
  refine rng_go (n := 12) (by omega) (fun _ => P12 K A p l d t r z w line ks g H) ⟨none, none, none, none, none, rfl, cc5, g5 _ _ hl4, kd4.grow g5, tb.grow g5⟩ (fun k σ H6 hk6 h => ?_) (fun σ H6 h => ?_)
  · obtain ⟨s6, s7, s8, s9, s10, rfl, c6, hl6, kd6, tb6⟩ := h
    exact rd_for w1 w2 ll bl hk ok nlp ndp ntp nrp nzp (fun _ _ h => h) rfl c6 hl6 kd6 tb6
  obtain ⟨s6, s7, s8, s9, s10, rfl, c6, hl6, kd6, tb6⟩ := h
  -- the chain
  show wS K W (.cons (.set (.v 11) _) _) _ [some (.ref p), some (.int w), some (tx line), some (.ref l), some (.ref d), some (.ref t), s6, s7, s8, s9, s10, none, none, none, none] H6
  refine st_setc (chainE (p := p) (w := w) (line := line) (er := .bin .Sub (.call (sp__law_among K A) (.cons (.v 0) (.cons (.lst (.cons (.c (.int 1)) (.cons (.c (.int 31)) (.cons (.c (.int 40)) (.nil))))) (.nil))) (.nil) [.p 0, .p 1]) (.c (.int 1))) (σ := [some (.ref p), some (.int w), some (tx line), some (.ref l), some (.ref d), some (.ref t), s6, s7, s8, s9, s10, none, none, none, none]) rfl rfl (by show 13 < 15; decide) ll w2 (fun Q1 q1 => ?_) c6.pot fun m e H7 hm he0 c7 ke => ?_)
  · refine ⟨by show 3 ≤ sizeLine; decide, fun q2 hq2 => ?_⟩
    have nq2 : q2 ≠ p := Chg.ne c6.pot hq2
    have c62 := (Chg.refl c6.pot).new (o := .lst [.int 1, .int 31, .int 40]) hq2
    refine ⟨p, .ref q2, rfl, c62.pot, .inl ⟨q2, _, rfl, nq2, SqL.of upd_same, by show 0 < 3; decide, by show 3 < 1000000; decide, fun v H7 hv c7 => ?_⟩⟩
    simp only [List.mem_cons, List.not_mem_nil, or_false] at hv
    rcases hv with rfl | rfl | rfl
    · exact q1 1 H7 (by decide) (by decide) (c62.trans c7)
    · exact q1 31 H7 (by decide) (by decide) (c62.trans c7)
    · exact q1 40 H7 (by decide) (by decide) (c62.trans c7)
  have nep : e ≠ p := Chg.ne c6.pot he0
  have cc7 := c6.trans c7
  have okC : RwOk w (chK line w m m) chG := ⟨fun s hs => by
    obtain ⟨j, _, _, rfl⟩ := chK_mem hs
    exact ⟨bl.take _, by rw [List.length_take]; omega⟩, fun s _ => chG_ok s⟩
  intro t2 tx2 ht7 htx7 hne7
  refine make_tabP (C := A.Table) (H := H7) (ks := chK line w m m) (g := chG) ht7 htx7 hne7 Grow.refl (by omega) w2 (Nat.le_trans chK_len hm) ke okC fun H8 r2 z2 g8 _ _ _ tb2 => ?_
  have ke8 := ke.grow g8
  have cc8 := cc7.trans (Chg.of_grow cc7.pot g8)
  show wS K W (.cons (.for_ (.v 13) (.rng3 (.cons (.c (.int 0)) (.cons (.v 1) (.cons (.c (.int 3)) (.nil))))) _) _) _ [some (.ref p), some (.int w), some (tx line), some (.ref l), some (.ref d), some (.ref t), s6, s7, s8, s9, s10, some (.ref e), some (.ref t2), none, none] H8
  refine ⟨_, _, _, _, rfl, RgC3 hw, ?_⟩
  refine for_it walk_rangeC (fun i σ H9 => (∃ s7 s13, σ = [some (.ref p), some (.int w), some (tx line), some (.ref l), some (.ref d), some (.ref t), s6, s7, s8, s9, s10, some (.ref e), some (.ref t2), s13, none]) ∧ Grow H8 H9) ⟨⟨_, _, rfl⟩, Grow.refl⟩ (fun _ _ _ _ _ => trivial) (fun i x σ H9 H10 hi h y => ?_) (fun σ H9 h => ?_)
  · obtain ⟨⟨s7, s13, rfl⟩, gr⟩ := h
    obtain ⟨rfl, rfl⟩ := y
    have ei : (0 : Int) + (i : Nat) * 3 = ((i * 3 : Nat) : Int) := by omega
    show wG K W (.v 13) (.int ((0 : Int) + (i : Nat) * 3)) _ _ _
    rw [ei]
    have hi3 : i * 3 < w := by omega
    have fo := flip_ok ll hi3 bl
    refine st_setc (flipE (i := 2) (j := 13) (σ := [some (.ref p), some (.int w), some (tx line), some (.ref l), some (.ref d), some (.ref t), s6, s7, s8, s9, s10, some (.ref e), some (.ref t2), some (.int ((i * 3 : Nat) : Int)), none]) (w := w) rfl rfl ll w2 hi3 bl fun H11 g11 => ?_)
    have gA := gr.trans g11
    refine ⟨t2, r2, z2, e, w, _, _, _, _, _, rfl, tb2.grow gA, ke8.grow gA, fun _ => Iff.rfl, fun _ _ => rfl, fo.1, fo.2, fun H12 g12 => ?_⟩
    exact ⟨⟨_, _, rfl⟩, gA.trans g12⟩
  · obtain ⟨⟨s7, s13, rfl⟩, gr⟩ := h
    exact ⟨t2, r2, z2, e, w, _, _, _, _, line, rfl, tb2.grow gr, ke8.grow gr, fun _ => Iff.rfl, fun _ _ => rfl, bl, ll, fun H' g' => q _ (cc8.trans (Chg.of_grow cc8.pot (gr.trans g')))⟩
end L17

set_option maxRecDepth 100000
set_option maxHeartbeats 1000000
namespace L17
open PySem L2 CW
def Ad0 : Ad := Ad.mk 0 0
theorem all_mk {l : PySem.W.OpenLaw} {w : World} {K : PySem.W.Frag} {h : Heap} {mg : Str → Option Value} {fa : Addr} (X : K.In h) (G : h.Ns mainGlobals mg) (hfa : mg "law" = some (.ref fa))
    {f1 f2 f3 f4 f5 f6 f7 f8 f9 f10 f11 f12 f13 f14 f15 f16 f17 f18 f19 f20 f21 f22 f23 f24 f25 f26 f27 f28 f29 f30 f31 : Addr} {od1 an1 od2 an2 od3 an3 od4 an4 od5 an5 od6 an6 od7 an7 od8 an8 od9 an9 od10 an10 od11 an11 od12 an12 od13 an13 od14 an14 od15 an15 od16 an16 od17 an17 od18 an18 od19 an19 od20 an20 od21 an21 od22 an22 od23 an23 od24 an24 od25 an25 od26 an26 od27 an27 od28 an28 od29 an29 od30 an30 od31 an31 : Option Addr} {sl1 sl2 sl3 sl4 sl5 sl6 sl7 sl8 sl9 sl10 sl11 sl12 sl13 sl14 sl15 dsl15 sl16 sl17 sl18 sl19 sl20 sl21 sl22 sl23 sl24 sl25 sl26 sl27 sl28 sl29 sl30 sl31 : Array (Option Value)} {oc1 kV1 dc1 pm1 cd1 ct1 oc2 kV2 dc2 pm2 cd2 ct2 oc3 kV3 dc3 pm3 cd3 ct3 oc4 kV4 dc4 pm4 cd4 ct4 oc5 kV5 dc5 pm5 cd5 ct5 oc6 kV6 dc6 pm6 cd6 ct6 oc7 kV7 dc7 pm7 cd7 ct7 oc8 kV8 dc8 pm8 cd8 ct8 oc9 kV9 dc9 pm9 cd9 ct9 oc10 kV10 dc10 pm10 cd10 ct10 oc11 kV11 dc11 pm11 cd11 ct11 oc12 kV12 dc12 pm12 cd12 ct12 oc13 kV13 dc13 pm13 cd13 ct13 oc14 kV14 dc14 pm14 cd14 ct14 oc15 kV15 dc15 pm15 cd15 ct15 oc16 kV16 dc16 pm16 cd16 ct16 oc17 kV17 dc17 pm17 cd17 ct17 oc18 kV18 dc18 pm18 cd18 ct18 oc19 kV19 dc19 pm19 cd19 ct19 oc20 kV20 dc20 pm20 cd20 ct20 oc21 kV21 dc21 pm21 cd21 ct21 oc22 kV22 dc22 pm22 cd22 ct22 oc23 kV23 dc23 pm23 cd23 ct23 oc24 kV24 dc24 pm24 cd24 ct24 oc25 kV25 dc25 pm25 cd25 ct25 oc26 kV26 dc26 pm26 cd26 ct26 oc27 kV27 dc27 pm27 cd27 ct27 oc28 kV28 dc28 pm28 cd28 ct28 oc29 kV29 dc29 pm29 cd29 ct29 oc30 kV30 dc30 pm30 cd30 ct30 oc31 kV31 dc31 pm31 cd31 ct31 : Value} {tc_Table_MOST_ROWS t_HOLE t_HOME t_LETTERS t_LONGEST_NAME t_MOST_WIDTH : Tok} {ad_Table : Addr} {dT15 : Addr} {dd15 : Option Addr} {dn15 : Nat} {ad_KEPT_WORDS : Addr} {dd_KEPT_WORDS : Option Addr} {its_KEPT_WORDS : Array Value} {n_KEPT_WORDS : Nat} {sl_KEPT_WORDS : Array (Option Value)}
    (v_Table : PySem.W.nsIn K mainGlobals "Table" = some (some (.ref ad_Table))) (q1_Table : PySem.W.plainGet K ad_Table Str.empty = true) (q2_Table : PySem.W.hasDictIn K ad_Table = true) (q3_Table : PySem.W.plainOver K ad_Table = true) (q4_Table : PySem.W.findIn K (.ref ad_Table) "__setattr__" = some (some (.builtin "object.__setattr__"))) (q5_Table : PySem.W.noSeq K ad_Table = true) (q6_Table : PySem.W.selfFirst K ad_Table = true) (q7_Table : PySem.W.makesIn K ad_Table = true) (q8_Table : PySem.W.keepIn K (.ref ad_Table) = true)
    (fl_Table_own_rows : PySem.W.findIn K (.ref ad_Table) "own_rows" = some none)
    (fl_Table_own_sizes : PySem.W.findIn K (.ref ad_Table) "own_sizes" = some none)
    (fl_Table_own_width : PySem.W.findIn K (.ref ad_Table) "own_width" = some none)
    (cs_Table_MOST_ROWS : PySem.W.findIn K (.ref ad_Table) "MOST_ROWS" = some (some (.int 40 tc_Table_MOST_ROWS))) (cg_Table_MOST_ROWS : PySem.W.specialIn K (.int 40 tc_Table_MOST_ROWS) "__get__" = some none)
    (a1 : PySem.W.nsIn K mainGlobals "_law_draw" = some (some (.ref f1))) (l1 : K.lookup f1 = some ⟨oc1, od1, .func (PySem.W.fnOf "_law_draw" "_law_draw" (defArgs st__law_draw) (defBody st__law_draw) (defScope st__law_draw) .none kV1 dc1 pm1 an1 cd1 ct1), sl1⟩) (c1 : PySem.W.codeIn K cd1 "_law_draw" = true) (k1 : PySem.W.keepIn K (.ref f1) = true)
    (a2 : PySem.W.nsIn K mainGlobals "_law_among" = some (some (.ref f2))) (l2 : K.lookup f2 = some ⟨oc2, od2, .func (PySem.W.fnOf "_law_among" "_law_among" (defArgs st__law_among) (defBody st__law_among) (defScope st__law_among) .none kV2 dc2 pm2 an2 cd2 ct2), sl2⟩) (c2 : PySem.W.codeIn K cd2 "_law_among" = true) (k2 : PySem.W.keepIn K (.ref f2) = true)
    (a3 : PySem.W.nsIn K mainGlobals "_law_bits" = some (some (.ref f3))) (l3 : K.lookup f3 = some ⟨oc3, od3, .func (PySem.W.fnOf "_law_bits" "_law_bits" (defArgs st__law_bits) (defBody st__law_bits) (defScope st__law_bits) .none kV3 dc3 pm3 an3 cd3 ct3), sl3⟩) (c3 : PySem.W.codeIn K cd3 "_law_bits" = true) (k3 : PySem.W.keepIn K (.ref f3) = true)
    (a4 : PySem.W.nsIn K mainGlobals "_law_turned" = some (some (.ref f4))) (l4 : K.lookup f4 = some ⟨oc4, od4, .func (PySem.W.fnOf "_law_turned" "_law_turned" (defArgs st__law_turned) (defBody st__law_turned) (defScope st__law_turned) .none kV4 dc4 pm4 an4 cd4 ct4), sl4⟩) (c4 : PySem.W.codeIn K cd4 "_law_turned" = true) (k4 : PySem.W.keepIn K (.ref f4) = true)
    (a5 : PySem.W.nsIn K mainGlobals "_law_parts" = some (some (.ref f5))) (l5 : K.lookup f5 = some ⟨oc5, od5, .func (PySem.W.fnOf "_law_parts" "_law_parts" (defArgs st__law_parts) (defBody st__law_parts) (defScope st__law_parts) .none kV5 dc5 pm5 an5 cd5 ct5), sl5⟩) (c5 : PySem.W.codeIn K cd5 "_law_parts" = true) (k5 : PySem.W.keepIn K (.ref f5) = true)
    (a6 : PySem.W.nsIn K mainGlobals "is_integer" = some (some (.ref f6))) (l6 : K.lookup f6 = some ⟨oc6, od6, .func (PySem.W.fnOf "is_integer" "is_integer" (defArgs st_is_integer) (defBody st_is_integer) (defScope st_is_integer) .none kV6 dc6 pm6 an6 cd6 ct6), sl6⟩) (c6 : PySem.W.codeIn K cd6 "is_integer" = true) (k6 : PySem.W.keepIn K (.ref f6) = true)
    (a7 : PySem.W.nsIn K mainGlobals "is_width" = some (some (.ref f7))) (l7 : K.lookup f7 = some ⟨oc7, od7, .func (PySem.W.fnOf "is_width" "is_width" (defArgs st_is_width) (defBody st_is_width) (defScope st_is_width) .none kV7 dc7 pm7 an7 cd7 ct7), sl7⟩) (c7 : PySem.W.codeIn K cd7 "is_width" = true) (k7 : PySem.W.keepIn K (.ref f7) = true)
    (a8 : PySem.W.nsIn K mainGlobals "want_width" = some (some (.ref f8))) (l8 : K.lookup f8 = some ⟨oc8, od8, .func (PySem.W.fnOf "want_width" "want_width" (defArgs st_want_width) (defBody st_want_width) (defScope st_want_width) .none kV8 dc8 pm8 an8 cd8 ct8), sl8⟩) (c8 : PySem.W.codeIn K cd8 "want_width" = true) (k8 : PySem.W.keepIn K (.ref f8) = true)
    (a9 : PySem.W.nsIn K mainGlobals "is_bits" = some (some (.ref f9))) (l9 : K.lookup f9 = some ⟨oc9, od9, .func (PySem.W.fnOf "is_bits" "is_bits" (defArgs st_is_bits) (defBody st_is_bits) (defScope st_is_bits) .none kV9 dc9 pm9 an9 cd9 ct9), sl9⟩) (c9 : PySem.W.codeIn K cd9 "is_bits" = true) (k9 : PySem.W.keepIn K (.ref f9) = true)
    (a10 : PySem.W.nsIn K mainGlobals "is_stretch" = some (some (.ref f10))) (l10 : K.lookup f10 = some ⟨oc10, od10, .func (PySem.W.fnOf "is_stretch" "is_stretch" (defArgs st_is_stretch) (defBody st_is_stretch) (defScope st_is_stretch) .none kV10 dc10 pm10 an10 cd10 ct10), sl10⟩) (c10 : PySem.W.codeIn K cd10 "is_stretch" = true) (k10 : PySem.W.keepIn K (.ref f10) = true)
    (a11 : PySem.W.nsIn K mainGlobals "is_name" = some (some (.ref f11))) (l11 : K.lookup f11 = some ⟨oc11, od11, .func (PySem.W.fnOf "is_name" "is_name" (defArgs st_is_name) (defBody st_is_name) (defScope st_is_name) .none kV11 dc11 pm11 an11 cd11 ct11), sl11⟩) (c11 : PySem.W.codeIn K cd11 "is_name" = true) (k11 : PySem.W.keepIn K (.ref f11) = true)
    (a12 : PySem.W.nsIn K mainGlobals "is_goal" = some (some (.ref f12))) (l12 : K.lookup f12 = some ⟨oc12, od12, .func (PySem.W.fnOf "is_goal" "is_goal" (defArgs st_is_goal) (defBody st_is_goal) (defScope st_is_goal) .none kV12 dc12 pm12 an12 cd12 ct12), sl12⟩) (c12 : PySem.W.codeIn K cd12 "is_goal" = true) (k12 : PySem.W.keepIn K (.ref f12) = true)
    (a13 : PySem.W.nsIn K mainGlobals "is_row" = some (some (.ref f13))) (l13 : K.lookup f13 = some ⟨oc13, od13, .func (PySem.W.fnOf "is_row" "is_row" (defArgs st_is_row) (defBody st_is_row) (defScope st_is_row) .none kV13 dc13 pm13 an13 cd13 ct13), sl13⟩) (c13 : PySem.W.codeIn K cd13 "is_row" = true) (k13 : PySem.W.keepIn K (.ref f13) = true)
    (a14 : PySem.W.nsIn K mainGlobals "are_rows" = some (some (.ref f14))) (l14 : K.lookup f14 = some ⟨oc14, od14, .func (PySem.W.fnOf "are_rows" "are_rows" (defArgs st_are_rows) (defBody st_are_rows) (defScope st_are_rows) .none kV14 dc14 pm14 an14 cd14 ct14), sl14⟩) (c14 : PySem.W.codeIn K cd14 "are_rows" = true) (k14 : PySem.W.keepIn K (.ref f14) = true)
    (a15 : PySem.W.findIn K (.ref ad_Table) "__init__" = some (some (.ref f15))) (l15 : K.lookup f15 = some ⟨oc15, od15, .func (PySem.W.fnOf "__init__" "Table.__init__" (defArgs st_Table___init__) (defBody st_Table___init__) (defScope st_Table___init__) (.ref dT15) kV15 dc15 pm15 an15 cd15 ct15), sl15⟩) (c15 : PySem.W.codeIn K cd15 "Table.__init__" = true) (k15 : PySem.W.keepIn K (.ref f15) = true)
    (n15 : PySem.W.isFn K (.ref f15) = true) (p15 : PySem.W.fnIn K f15 = true)
    (e15 : K.lookup dT15 = some ⟨.type "tuple", dd15, .seq #[.none] dn15, dsl15⟩)
    (a16 : PySem.W.findIn K (.ref ad_Table) "__len__" = some (some (.ref f16))) (l16 : K.lookup f16 = some ⟨oc16, od16, .func (PySem.W.fnOf "__len__" "Table.__len__" (defArgs st_Table___len__) (defBody st_Table___len__) (defScope st_Table___len__) .none kV16 dc16 pm16 an16 cd16 ct16), sl16⟩) (c16 : PySem.W.codeIn K cd16 "Table.__len__" = true) (k16 : PySem.W.keepIn K (.ref f16) = true)
    (n16 : PySem.W.isFn K (.ref f16) = true) (p16 : PySem.W.fnIn K f16 = true)
    (a17 : PySem.W.nsIn K mainGlobals "_law_row" = some (some (.ref f17))) (l17 : K.lookup f17 = some ⟨oc17, od17, .func (PySem.W.fnOf "_law_row" "_law_row" (defArgs st__law_row) (defBody st__law_row) (defScope st__law_row) .none kV17 dc17 pm17 an17 cd17 ct17), sl17⟩) (c17 : PySem.W.codeIn K cd17 "_law_row" = true) (k17 : PySem.W.keepIn K (.ref f17) = true)
    (a18 : PySem.W.nsIn K mainGlobals "is_address" = some (some (.ref f18))) (l18 : K.lookup f18 = some ⟨oc18, od18, .func (PySem.W.fnOf "is_address" "is_address" (defArgs st_is_address) (defBody st_is_address) (defScope st_is_address) .none kV18 dc18 pm18 an18 cd18 ct18), sl18⟩) (c18 : PySem.W.codeIn K cd18 "is_address" = true) (k18 : PySem.W.keepIn K (.ref f18) = true)
    (a19 : PySem.W.nsIn K mainGlobals "want_address" = some (some (.ref f19))) (l19 : K.lookup f19 = some ⟨oc19, od19, .func (PySem.W.fnOf "want_address" "want_address" (defArgs st_want_address) (defBody st_want_address) (defScope st_want_address) .none kV19 dc19 pm19 an19 cd19 ct19), sl19⟩) (c19 : PySem.W.codeIn K cd19 "want_address" = true) (k19 : PySem.W.keepIn K (.ref f19) = true)
    (a20 : PySem.W.findIn K (.ref ad_Table) "row_of" = some (some (.ref f20))) (l20 : K.lookup f20 = some ⟨oc20, od20, .func (PySem.W.fnOf "row_of" "Table.row_of" (defArgs st_Table_row_of) (defBody st_Table_row_of) (defScope st_Table_row_of) .none kV20 dc20 pm20 an20 cd20 ct20), sl20⟩) (c20 : PySem.W.codeIn K cd20 "Table.row_of" = true) (k20 : PySem.W.keepIn K (.ref f20) = true)
    (n20 : PySem.W.isFn K (.ref f20) = true) (p20 : PySem.W.fnIn K f20 = true)
    (a21 : PySem.W.findIn K (.ref ad_Table) "goal_of" = some (some (.ref f21))) (l21 : K.lookup f21 = some ⟨oc21, od21, .func (PySem.W.fnOf "goal_of" "Table.goal_of" (defArgs st_Table_goal_of) (defBody st_Table_goal_of) (defScope st_Table_goal_of) .none kV21 dc21 pm21 an21 cd21 ct21), sl21⟩) (c21 : PySem.W.codeIn K cd21 "Table.goal_of" = true) (k21 : PySem.W.keepIn K (.ref f21) = true)
    (n21 : PySem.W.isFn K (.ref f21) = true) (p21 : PySem.W.fnIn K f21 = true)
    (a22 : PySem.W.findIn K (.ref ad_Table) "__call__" = some (some (.ref f22))) (l22 : K.lookup f22 = some ⟨oc22, od22, .func (PySem.W.fnOf "__call__" "Table.__call__" (defArgs st_Table___call__) (defBody st_Table___call__) (defScope st_Table___call__) .none kV22 dc22 pm22 an22 cd22 ct22), sl22⟩) (c22 : PySem.W.codeIn K cd22 "Table.__call__" = true) (k22 : PySem.W.keepIn K (.ref f22) = true)
    (n22 : PySem.W.isFn K (.ref f22) = true) (p22 : PySem.W.fnIn K f22 = true)
    (a23 : PySem.W.findIn K (.ref ad_Table) "row" = some (some (.ref f23))) (l23 : K.lookup f23 = some ⟨oc23, od23, .func (PySem.W.fnOf "row" "Table.row" (defArgs st_Table_row) (defBody st_Table_row) (defScope st_Table_row) .none kV23 dc23 pm23 an23 cd23 ct23), sl23⟩) (c23 : PySem.W.codeIn K cd23 "Table.row" = true) (k23 : PySem.W.keepIn K (.ref f23) = true)
    (n23 : PySem.W.isFn K (.ref f23) = true) (p23 : PySem.W.fnIn K f23 = true)
    (a24 : PySem.W.nsIn K mainGlobals "_law_is_right" = some (some (.ref f24))) (l24 : K.lookup f24 = some ⟨oc24, od24, .func (PySem.W.fnOf "_law_is_right" "_law_is_right" (defArgs st__law_is_right) (defBody st__law_is_right) (defScope st__law_is_right) .none kV24 dc24 pm24 an24 cd24 ct24), sl24⟩) (c24 : PySem.W.codeIn K cd24 "_law_is_right" = true) (k24 : PySem.W.keepIn K (.ref f24) = true)
    (a25 : PySem.W.nsIn K mainGlobals "_law_place" = some (some (.ref f25))) (l25 : K.lookup f25 = some ⟨oc25, od25, .func (PySem.W.fnOf "_law_place" "_law_place" (defArgs st__law_place) (defBody st__law_place) (defScope st__law_place) .none kV25 dc25 pm25 an25 cd25 ct25), sl25⟩) (c25 : PySem.W.codeIn K cd25 "_law_place" = true) (k25 : PySem.W.keepIn K (.ref f25) = true)
    (a26 : PySem.W.findIn K (.ref ad_Table) "__contains__" = some (some (.ref f26))) (l26 : K.lookup f26 = some ⟨oc26, od26, .func (PySem.W.fnOf "__contains__" "Table.__contains__" (defArgs st_Table___contains__) (defBody st_Table___contains__) (defScope st_Table___contains__) .none kV26 dc26 pm26 an26 cd26 ct26), sl26⟩) (c26 : PySem.W.codeIn K cd26 "Table.__contains__" = true) (k26 : PySem.W.keepIn K (.ref f26) = true)
    (n26 : PySem.W.isFn K (.ref f26) = true) (p26 : PySem.W.fnIn K f26 = true)
    (a27 : PySem.W.findIn K (.ref ad_Table) "__sub__" = some (some (.ref f27))) (l27 : K.lookup f27 = some ⟨oc27, od27, .func (PySem.W.fnOf "__sub__" "Table.__sub__" (defArgs st_Table___sub__) (defBody st_Table___sub__) (defScope st_Table___sub__) .none kV27 dc27 pm27 an27 cd27 ct27), sl27⟩) (c27 : PySem.W.codeIn K cd27 "Table.__sub__" = true) (k27 : PySem.W.keepIn K (.ref f27) = true)
    (n27 : PySem.W.isFn K (.ref f27) = true) (p27 : PySem.W.fnIn K f27 = true)
    (a28 : PySem.W.findIn K (.ref ad_Table) "__add__" = some (some (.ref f28))) (l28 : K.lookup f28 = some ⟨oc28, od28, .func (PySem.W.fnOf "__add__" "Table.__add__" (defArgs st_Table___add__) (defBody st_Table___add__) (defScope st_Table___add__) .none kV28 dc28 pm28 an28 cd28 ct28), sl28⟩) (c28 : PySem.W.codeIn K cd28 "Table.__add__" = true) (k28 : PySem.W.keepIn K (.ref f28) = true)
    (n28 : PySem.W.isFn K (.ref f28) = true) (p28 : PySem.W.fnIn K f28 = true)
    (a29 : PySem.W.nsIn K mainGlobals "_law_right" = some (some (.ref f29))) (l29 : K.lookup f29 = some ⟨oc29, od29, .func (PySem.W.fnOf "_law_right" "_law_right" (defArgs st__law_right) (defBody st__law_right) (defScope st__law_right) .none kV29 dc29 pm29 an29 cd29 ct29), sl29⟩) (c29 : PySem.W.codeIn K cd29 "_law_right" = true) (k29 : PySem.W.keepIn K (.ref f29) = true)
    (a30 : PySem.W.nsIn K mainGlobals "_law_pot" = some (some (.ref f30))) (l30 : K.lookup f30 = some ⟨oc30, od30, .func (PySem.W.fnOf "_law_pot" "_law_pot" (defArgs st__law_pot) (defBody st__law_pot) (defScope st__law_pot) .none kV30 dc30 pm30 an30 cd30 ct30), sl30⟩) (c30 : PySem.W.codeIn K cd30 "_law_pot" = true) (k30 : PySem.W.keepIn K (.ref f30) = true)
    (a31 : PySem.W.nsIn K mainGlobals "law" = some (some (.ref f31))) (l31 : K.lookup f31 = some ⟨oc31, od31, .func (PySem.W.fnOf "law" "law" (defArgs st_law) (defBody st_law) (defScope st_law) .none kV31 dc31 pm31 an31 cd31 ct31), sl31⟩) (c31 : PySem.W.codeIn K cd31 "law" = true) (k31 : PySem.W.keepIn K (.ref f31) = true)
    (v_HOLE : PySem.W.nsIn K mainGlobals "HOLE" = some (some (.str "hole" t_HOLE)))
    (v_HOME : PySem.W.nsIn K mainGlobals "HOME" = some (some (.str "home" t_HOME)))
    (v_KEPT_WORDS : PySem.W.nsIn K mainGlobals "KEPT_WORDS" = some (some (.ref ad_KEPT_WORDS))) (w_KEPT_WORDS : K.lookup ad_KEPT_WORDS = some ⟨.type "tuple", dd_KEPT_WORDS, .seq its_KEPT_WORDS n_KEPT_WORDS, sl_KEPT_WORDS⟩) (y_KEPT_WORDS : its_KEPT_WORDS.size ≤ sizeLine) (z_KEPT_WORDS : valsB kept its_KEPT_WORDS.toList = true)
    (v_LETTERS : PySem.W.nsIn K mainGlobals "LETTERS" = some (some (.str "abcdefghijklmnopqrstuvwxyz" t_LETTERS)))
    (v_LONGEST_NAME : PySem.W.nsIn K mainGlobals "LONGEST_NAME" = some (some (.int 6 t_LONGEST_NAME)))
    (v_MOST_WIDTH : PySem.W.nsIn K mainGlobals "MOST_WIDTH" = some (some (.int 100 t_MOST_WIDTH)))
    (z_abs : PySem.W.nsIn K mainGlobals "abs" = some none)
    (z_all : PySem.W.nsIn K mainGlobals "all" = some none)
    (z_bool : PySem.W.nsIn K mainGlobals "bool" = some none)
    (z_dict : PySem.W.nsIn K mainGlobals "dict" = some none)
    (z_divmod : PySem.W.nsIn K mainGlobals "divmod" = some none)
    (z_int : PySem.W.nsIn K mainGlobals "int" = some none)
    (z_isinstance : PySem.W.nsIn K mainGlobals "isinstance" = some none)
    (z_len : PySem.W.nsIn K mainGlobals "len" = some none)
    (z_list : PySem.W.nsIn K mainGlobals "list" = some none)
    (z_max : PySem.W.nsIn K mainGlobals "max" = some none)
    (z_min : PySem.W.nsIn K mainGlobals "min" = some none)
    (z_range : PySem.W.nsIn K mainGlobals "range" = some none)
    (z_repr : PySem.W.nsIn K mainGlobals "repr" = some none)
    (z_sorted : PySem.W.nsIn K mainGlobals "sorted" = some none)
    (z_str : PySem.W.nsIn K mainGlobals "str" = some none)
    (z_tuple : PySem.W.nsIn K mainGlobals "tuple" = some none) :
    ∃ fd : FuncData, (∀ (s : Shared) (v : Value), BindsTo s fd ⟨[v], []⟩ [("_law_script", v)]) ∧ ∀ base : Heap, K.In base → base.Ns mainGlobals mg → FnG l.prog w K mg base 62 fa fd ["_law_script"] (sp_law K Ad0) := by
  have e := hfa.symm.trans (PySem.W.mg_of X G a31)
  cases e
  refine ⟨PySem.W.fnOf "law" "law" (defArgs st_law) (defBody st_law) (defScope st_law) .none kV31 dc31 pm31 an31 cd31 ct31, fun s v => .of_eq rfl, fun base _ _ => ?_⟩
  have m_abs := PySem.W.mg_none_of X G z_abs
  have m_all := PySem.W.mg_none_of X G z_all
  have m_bool := PySem.W.mg_none_of X G z_bool
  have m_dict := PySem.W.mg_none_of X G z_dict
  have m_divmod := PySem.W.mg_none_of X G z_divmod
  have m_int := PySem.W.mg_none_of X G z_int
  have m_isinstance := PySem.W.mg_none_of X G z_isinstance
  have m_len := PySem.W.mg_none_of X G z_len
  have m_list := PySem.W.mg_none_of X G z_list
  have m_max := PySem.W.mg_none_of X G z_max
  have m_min := PySem.W.mg_none_of X G z_min
  have m_range := PySem.W.mg_none_of X G z_range
  have m_repr := PySem.W.mg_none_of X G z_repr
  have m_sorted := PySem.W.mg_none_of X G z_sorted
  have m_str := PySem.W.mg_none_of X G z_str
  have m_tuple := PySem.W.mg_none_of X G z_tuple
  have m_HOLE := PySem.W.mg_of X G v_HOLE
  have m_HOME := PySem.W.mg_of X G v_HOME
  have m_KEPT_WORDS := PySem.W.mg_of X G v_KEPT_WORDS
  have m_LETTERS := PySem.W.mg_of X G v_LETTERS
  have m_LONGEST_NAME := PySem.W.mg_of X G v_LONGEST_NAME
  have m_MOST_WIDTH := PySem.W.mg_of X G v_MOST_WIDTH
  have g1 := PySem.W.mg_of X G a1
  have g2 := PySem.W.mg_of X G a2
  have g3 := PySem.W.mg_of X G a3
  have g4 := PySem.W.mg_of X G a4
  have g5 := PySem.W.mg_of X G a5
  have g6 := PySem.W.mg_of X G a6
  have g7 := PySem.W.mg_of X G a7
  have g8 := PySem.W.mg_of X G a8
  have g9 := PySem.W.mg_of X G a9
  have g10 := PySem.W.mg_of X G a10
  have g11 := PySem.W.mg_of X G a11
  have g12 := PySem.W.mg_of X G a12
  have g13 := PySem.W.mg_of X G a13
  have g14 := PySem.W.mg_of X G a14
  have g17 := PySem.W.mg_of X G a17
  have g18 := PySem.W.mg_of X G a18
  have g19 := PySem.W.mg_of X G a19
  have g24 := PySem.W.mg_of X G a24
  have g25 := PySem.W.mg_of X G a25
  have g29 := PySem.W.mg_of X G a29
  have g30 := PySem.W.mg_of X G a30
  have g31 := PySem.W.mg_of X G a31
  have m_Table := PySem.W.mg_of X G v_Table
  have hA : ∀ H, SqT K H ad_KEPT_WORDS kept := fun H => sqt_of w_KEPT_WORDS y_KEPT_WORDS z_KEPT_WORDS H
  have F1 : FnG l.prog w K mg base 2 f1 _ ["_law_pot_here", "_law_many"] (sp__law_draw K (Ad.mk ad_KEPT_WORDS ad_Table)) := fn_G (k := 1) l1 c1 s__law_draw (tb := tb__law_draw K (Ad.mk ad_KEPT_WORDS ad_Table)) (gcons ⟨m_divmod, by decide +kernel⟩ (gcons ⟨m_int, by decide +kernel, fun b e => by cases e <;> rfl⟩ (gnil))) (cl := cl__law_draw K (Ad.mk ad_KEPT_WORDS ad_Table)) (mnil) (c__law_draw K (Ad.mk ad_KEPT_WORDS ad_Table)) (fun vs H Q R z => CW.rd_draw (by decide) (by decide) (by decide) (by decide) (by decide) vs H Q R z)
  have B1_0 : KB K (PySem.W.fnOf "_law_draw" "_law_draw" (defArgs st__law_draw) (defBody st__law_draw) (defScope st__law_draw) .none kV1 dc1 pm1 an1 cd1 ct1) ["_law_pot_here", "_law_many"] 2 [] [.p 0, .p 1] := kb_of rfl fun us ws h1 h2 => match us, ws, h1, h2 with | [_, _], [], _, _ => rfl
  have F2 : FnG l.prog w K mg base 4 f2 _ ["_law_pot_here", "_law_some"] (sp__law_among K (Ad.mk ad_KEPT_WORDS ad_Table)) := fn_G (k := 3) l2 c2 s__law_among (tb := tb__law_among K (Ad.mk ad_KEPT_WORDS ad_Table)) (gcons ⟨f1, _, g1, k1, F1.up (by decide), kcons B1_0 (knil)⟩ (gcons ⟨m_len, by decide +kernel⟩ (gnil))) (cl := cl__law_among K (Ad.mk ad_KEPT_WORDS ad_Table)) (mnil) (c__law_among K (Ad.mk ad_KEPT_WORDS ad_Table)) (fun vs H Q R z => CW.rd_among vs H Q R z)
  have B2_0 : KB K (PySem.W.fnOf "_law_among" "_law_among" (defArgs st__law_among) (defBody st__law_among) (defScope st__law_among) .none kV2 dc2 pm2 an2 cd2 ct2) ["_law_pot_here", "_law_some"] 2 [] [.p 0, .p 1] := kb_of rfl fun us ws h1 h2 => match us, ws, h1, h2 with | [_, _], [], _, _ => rfl
  have F3 : FnG l.prog w K mg base 6 f3 _ ["_law_pot_here", "_law_least", "_law_most"] (sp__law_bits K (Ad.mk ad_KEPT_WORDS ad_Table)) := fn_G (k := 5) l3 c3 s__law_bits (tb := tb__law_bits K (Ad.mk ad_KEPT_WORDS ad_Table)) (gcons ⟨rfl, m_range⟩ (gcons ⟨f1, _, g1, k1, F1.up (by decide), kcons B1_0 (knil)⟩ (gcons ⟨f2, _, g2, k2, F2.up (by decide), kcons B2_0 (knil)⟩ (gnil)))) (cl := cl__law_bits K (Ad.mk ad_KEPT_WORDS ad_Table)) (mnil) (c__law_bits K (Ad.mk ad_KEPT_WORDS ad_Table)) (fun vs H Q R z => CW.rd_bits vs H Q R z)
  have B3_0 : KB K (PySem.W.fnOf "_law_bits" "_law_bits" (defArgs st__law_bits) (defBody st__law_bits) (defScope st__law_bits) .none kV3 dc3 pm3 an3 cd3 ct3) ["_law_pot_here", "_law_least", "_law_most"] 3 [] [.p 0, .p 1, .p 2] := kb_of rfl fun us ws h1 h2 => match us, ws, h1, h2 with | [_, _, _], [], _, _ => rfl
  have F4 : FnG l.prog w K mg base 8 f4 _ ["_law_part"] (sp__law_turned K (Ad.mk ad_KEPT_WORDS ad_Table)) := fn_G (k := 7) l4 c4 s__law_turned (tb := tb__law_turned K (Ad.mk ad_KEPT_WORDS ad_Table)) (gnil) (cl := cl__law_turned K (Ad.mk ad_KEPT_WORDS ad_Table)) (mnil) (c__law_turned K (Ad.mk ad_KEPT_WORDS ad_Table)) (fun vs H Q R z => rd_law_turned vs H Q R z)
  have B4_0 : KB K (PySem.W.fnOf "_law_turned" "_law_turned" (defArgs st__law_turned) (defBody st__law_turned) (defScope st__law_turned) .none kV4 dc4 pm4 an4 cd4 ct4) ["_law_part"] 1 [] [.p 0] := kb_of rfl fun us ws h1 h2 => match us, ws, h1, h2 with | [_], [], _, _ => rfl
  have F5 : FnG l.prog w K mg base 10 f5 _ ["_law_pot_here", "_law_span"] (sp__law_parts K (Ad.mk ad_KEPT_WORDS ad_Table)) := fn_G (k := 9) l5 c5 s__law_parts (tb := tb__law_parts K (Ad.mk ad_KEPT_WORDS ad_Table)) (gcons ⟨f3, _, g3, k3, F3.up (by decide), kcons B3_0 (knil)⟩ (gcons ⟨rfl, m_range⟩ (gcons ⟨f2, _, g2, k2, F2.up (by decide), kcons B2_0 (knil)⟩ (gcons ⟨f1, _, g1, k1, F1.up (by decide), kcons B1_0 (knil)⟩ (gcons ⟨f4, _, g4, k4, F4.up (by decide), kcons B4_0 (knil)⟩ (gcons ⟨m_min, by decide +kernel⟩ (gcons ⟨m_len, by decide +kernel⟩ (gnil)))))))) (cl := cl__law_parts K (Ad.mk ad_KEPT_WORDS ad_Table)) (mnil) (c__law_parts K (Ad.mk ad_KEPT_WORDS ad_Table)) (fun vs H Q R z => rd_law_parts vs H Q R z)
  have B5_0 : KB K (PySem.W.fnOf "_law_parts" "_law_parts" (defArgs st__law_parts) (defBody st__law_parts) (defScope st__law_parts) .none kV5 dc5 pm5 an5 cd5 ct5) ["_law_pot_here", "_law_span"] 2 [] [.p 0, .p 1] := kb_of rfl fun us ws h1 h2 => match us, ws, h1, h2 with | [_, _], [], _, _ => rfl
  have F6 : FnG l.prog w K mg base 12 f6 _ ["value"] (sp_is_integer K (Ad.mk ad_KEPT_WORDS ad_Table)) := fn_G (k := 11) l6 c6 s_is_integer (tb := tb_is_integer K (Ad.mk ad_KEPT_WORDS ad_Table)) (gcons ⟨m_isinstance, by decide +kernel⟩ (gcons ⟨m_int, by decide +kernel, fun b e => by cases e <;> rfl⟩ (gcons ⟨m_bool, by decide +kernel, fun b e => by cases e <;> rfl⟩ (gnil)))) (cl := cl_is_integer K (Ad.mk ad_KEPT_WORDS ad_Table)) (mnil) (c_is_integer K (Ad.mk ad_KEPT_WORDS ad_Table)) (fun vs H Q R z => CW.rd_isInt vs H Q R z)
  have B6_0 : KB K (PySem.W.fnOf "is_integer" "is_integer" (defArgs st_is_integer) (defBody st_is_integer) (defScope st_is_integer) .none kV6 dc6 pm6 an6 cd6 ct6) ["value"] 1 [] [.p 0] := kb_of rfl fun us ws h1 h2 => match us, ws, h1, h2 with | [_], [], _, _ => rfl
  have F7 : FnG l.prog w K mg base 14 f7 _ ["value"] (sp_is_width K (Ad.mk ad_KEPT_WORDS ad_Table)) := fn_G (k := 13) l7 c7 s_is_width (tb := tb_is_width K (Ad.mk ad_KEPT_WORDS ad_Table)) (gcons ⟨f6, _, g6, k6, F6.up (by decide), kcons B6_0 (knil)⟩ (gcons ⟨_, m_MOST_WIDTH, ⟨_, rfl⟩⟩ (gnil))) (cl := cl_is_width K (Ad.mk ad_KEPT_WORDS ad_Table)) (mnil) (c_is_width K (Ad.mk ad_KEPT_WORDS ad_Table)) (fun vs H Q R z => CW.rd_isWidth vs H Q R z)
  have B7_0 : KB K (PySem.W.fnOf "is_width" "is_width" (defArgs st_is_width) (defBody st_is_width) (defScope st_is_width) .none kV7 dc7 pm7 an7 cd7 ct7) ["value"] 1 [] [.p 0] := kb_of rfl fun us ws h1 h2 => match us, ws, h1, h2 with | [_], [], _, _ => rfl
  have F8 : FnG l.prog w K mg base 16 f8 _ ["width"] (sp_want_width K (Ad.mk ad_KEPT_WORDS ad_Table)) := fn_G (k := 15) l8 c8 s_want_width (tb := tb_want_width K (Ad.mk ad_KEPT_WORDS ad_Table)) (gcons ⟨f7, _, g7, k7, F7.up (by decide), kcons B7_0 (knil)⟩ (gnil)) (cl := cl_want_width K (Ad.mk ad_KEPT_WORDS ad_Table)) (mnil) (c_want_width K (Ad.mk ad_KEPT_WORDS ad_Table)) (fun vs H Q R z => CW.rd_wantWidth vs H Q R z)
  have B8_0 : KB K (PySem.W.fnOf "want_width" "want_width" (defArgs st_want_width) (defBody st_want_width) (defScope st_want_width) .none kV8 dc8 pm8 an8 cd8 ct8) ["width"] 1 [] [.p 0] := kb_of rfl fun us ws h1 h2 => match us, ws, h1, h2 with | [_], [], _, _ => rfl
  have F9 : FnG l.prog w K mg base 18 f9 _ ["value"] (sp_is_bits K (Ad.mk ad_KEPT_WORDS ad_Table)) := fn_G (k := 17) l9 c9 s_is_bits (tb := tb_is_bits K (Ad.mk ad_KEPT_WORDS ad_Table)) (gcons ⟨m_isinstance, by decide +kernel⟩ (gcons ⟨m_str, by decide +kernel, fun b e => by cases e <;> rfl⟩ (gcons ⟨m_all, by decide +kernel⟩ (gnil)))) (cl := cl_is_bits K (Ad.mk ad_KEPT_WORDS ad_Table)) (mnil) (c_is_bits K (Ad.mk ad_KEPT_WORDS ad_Table)) (fun vs H Q R z => CW.rd_isBits vs H Q R z)
  have B9_0 : KB K (PySem.W.fnOf "is_bits" "is_bits" (defArgs st_is_bits) (defBody st_is_bits) (defScope st_is_bits) .none kV9 dc9 pm9 an9 cd9 ct9) ["value"] 1 [] [.p 0] := kb_of rfl fun us ws h1 h2 => match us, ws, h1, h2 with | [_], [], _, _ => rfl
  have F10 : FnG l.prog w K mg base 20 f10 _ ["width", "value"] (sp_is_stretch K (Ad.mk ad_KEPT_WORDS ad_Table)) := fn_G (k := 19) l10 c10 s_is_stretch (tb := tb_is_stretch K (Ad.mk ad_KEPT_WORDS ad_Table)) (gcons ⟨f8, _, g8, k8, F8.up (by decide), kcons B8_0 (knil)⟩ (gcons ⟨f9, _, g9, k9, F9.up (by decide), kcons B9_0 (knil)⟩ (gcons ⟨m_len, by decide +kernel⟩ (gnil)))) (cl := cl_is_stretch K (Ad.mk ad_KEPT_WORDS ad_Table)) (mnil) (c_is_stretch K (Ad.mk ad_KEPT_WORDS ad_Table)) (fun vs H Q R z => CW.rd_isStretch vs H Q R z)
  have B10_0 : KB K (PySem.W.fnOf "is_stretch" "is_stretch" (defArgs st_is_stretch) (defBody st_is_stretch) (defScope st_is_stretch) .none kV10 dc10 pm10 an10 cd10 ct10) ["width", "value"] 2 [] [.p 0, .p 1] := kb_of rfl fun us ws h1 h2 => match us, ws, h1, h2 with | [_, _], [], _, _ => rfl
  have F11 : FnG l.prog w K mg base 22 f11 _ ["value"] (sp_is_name K (Ad.mk ad_KEPT_WORDS ad_Table)) := fn_G (k := 21) l11 c11 s_is_name (tb := tb_is_name K (Ad.mk ad_KEPT_WORDS ad_Table)) (gcons ⟨m_isinstance, by decide +kernel⟩ (gcons ⟨m_str, by decide +kernel, fun b e => by cases e <;> rfl⟩ (gcons ⟨m_len, by decide +kernel⟩ (gcons ⟨_, m_LONGEST_NAME, ⟨_, rfl⟩⟩ (gcons ⟨m_all, by decide +kernel⟩ (gcons ⟨_, m_LETTERS, ⟨_, rfl⟩⟩ (gcons ⟨_, m_KEPT_WORDS, rfl⟩ (gnil)))))))) (cl := cl_is_name K (Ad.mk ad_KEPT_WORDS ad_Table)) (mnil) (c_is_name K (Ad.mk ad_KEPT_WORDS ad_Table)) (fun vs H Q R z => CW.rd_isName hA vs H Q R z)
  have B11_0 : KB K (PySem.W.fnOf "is_name" "is_name" (defArgs st_is_name) (defBody st_is_name) (defScope st_is_name) .none kV11 dc11 pm11 an11 cd11 ct11) ["value"] 1 [] [.p 0] := kb_of rfl fun us ws h1 h2 => match us, ws, h1, h2 with | [_], [], _, _ => rfl
  have F12 : FnG l.prog w K mg base 24 f12 _ ["value"] (sp_is_goal K (Ad.mk ad_KEPT_WORDS ad_Table)) := fn_G (k := 23) l12 c12 s_is_goal (tb := tb_is_goal K (Ad.mk ad_KEPT_WORDS ad_Table)) (gcons ⟨f11, _, g11, k11, F11.up (by decide), kcons B11_0 (knil)⟩ (gcons ⟨m_isinstance, by decide +kernel⟩ (gcons ⟨m_str, by decide +kernel, fun b e => by cases e <;> rfl⟩ (gcons ⟨_, m_HOLE, ⟨_, rfl⟩⟩ (gcons ⟨_, m_HOME, ⟨_, rfl⟩⟩ (gnil)))))) (cl := cl_is_goal K (Ad.mk ad_KEPT_WORDS ad_Table)) (mnil) (c_is_goal K (Ad.mk ad_KEPT_WORDS ad_Table)) (fun vs H Q R z => CW.rd_isGoal vs H Q R z)
  have B12_0 : KB K (PySem.W.fnOf "is_goal" "is_goal" (defArgs st_is_goal) (defBody st_is_goal) (defScope st_is_goal) .none kV12 dc12 pm12 an12 cd12 ct12) ["value"] 1 [] [.p 0] := kb_of rfl fun us ws h1 h2 => match us, ws, h1, h2 with | [_], [], _, _ => rfl
  have F13 : FnG l.prog w K mg base 26 f13 _ ["width", "value"] (sp_is_row K (Ad.mk ad_KEPT_WORDS ad_Table)) := fn_G (k := 25) l13 c13 s_is_row (tb := tb_is_row K (Ad.mk ad_KEPT_WORDS ad_Table)) (gcons ⟨m_isinstance, by decide +kernel⟩ (gcons ⟨m_tuple, by decide +kernel, fun b e => by cases e <;> rfl⟩ (gcons ⟨m_len, by decide +kernel⟩ (gcons ⟨f10, _, g10, k10, F10.up (by decide), kcons B10_0 (knil)⟩ (gcons ⟨f12, _, g12, k12, F12.up (by decide), kcons B12_0 (knil)⟩ (gnil)))))) (cl := cl_is_row K (Ad.mk ad_KEPT_WORDS ad_Table)) (mnil) (c_is_row K (Ad.mk ad_KEPT_WORDS ad_Table)) (fun vs H Q R z => CW.rd_isRow vs H Q R z)
  have B13_0 : KB K (PySem.W.fnOf "is_row" "is_row" (defArgs st_is_row) (defBody st_is_row) (defScope st_is_row) .none kV13 dc13 pm13 an13 cd13 ct13) ["width", "value"] 2 [] [.p 0, .p 1] := kb_of rfl fun us ws h1 h2 => match us, ws, h1, h2 with | [_, _], [], _, _ => rfl
  have F14 : FnG l.prog w K mg base 28 f14 _ ["width", "value"] (sp_are_rows K (Ad.mk ad_KEPT_WORDS ad_Table)) := fn_G (k := 27) l14 c14 s_are_rows (tb := tb_are_rows K (Ad.mk ad_KEPT_WORDS ad_Table)) (gcons ⟨m_isinstance, by decide +kernel⟩ (gcons ⟨m_dict, by decide +kernel, fun b e => by cases e <;> rfl⟩ (gcons ⟨m_all, by decide +kernel⟩ (gcons ⟨f13, _, g13, k13, F13.up (by decide), kcons B13_0 (knil)⟩ (gnil))))) (cl := cl_are_rows K (Ad.mk ad_KEPT_WORDS ad_Table)) (mnil) (c_are_rows K (Ad.mk ad_KEPT_WORDS ad_Table)) (fun vs H Q R z => CW.rd_areRows vs H Q R z)
  have B14_0 : KB K (PySem.W.fnOf "are_rows" "are_rows" (defArgs st_are_rows) (defBody st_are_rows) (defScope st_are_rows) .none kV14 dc14 pm14 an14 cd14 ct14) ["width", "value"] 2 [] [.p 0, .p 1] := kb_of rfl fun us ws h1 h2 => match us, ws, h1, h2 with | [_, _], [], _, _ => rfl
  have F15 : FnG l.prog w K mg base 30 f15 _ ["self", "width", "rows"] (sp_Table___init__ K (Ad.mk ad_KEPT_WORDS ad_Table)) := fn_G (k := 29) l15 c15 s_Table___init__ (tb := tb_Table___init__ K (Ad.mk ad_KEPT_WORDS ad_Table)) (gcons ⟨f8, _, g8, k8, F8.up (by decide), kcons B8_0 (knil)⟩ (gcons ⟨f14, _, g14, k14, F14.up (by decide), kcons B14_0 (knil)⟩ (gcons ⟨m_len, by decide +kernel⟩ (gcons ⟨m_sorted, by decide +kernel⟩ (gnil))))) (cl := cl_Table___init__ K (Ad.mk ad_KEPT_WORDS ad_Table)) (mcons ⟨⟨q1_Table, q2_Table, q3_Table, q4_Table⟩, q5_Table, q6_Table, (fun _ e => nomatch e), mnil, mnil, mcons ⟨_, ⟨cs_Table_MOST_ROWS, ⟨_, rfl⟩, cg_Table_MOST_ROWS, by decide +kernel⟩⟩ (mnil), mcons fl_Table_own_width (mcons fl_Table_own_rows (mcons fl_Table_own_sizes (mnil)))⟩ (mnil)) (c_Table___init__ K (Ad.mk ad_KEPT_WORDS ad_Table)) (fun vs H Q R z => CW.rd_init ⟨q1_Table, q2_Table, q3_Table, q4_Table⟩ fl_Table_own_width fl_Table_own_rows fl_Table_own_sizes vs H Q R z)
  have B15_0 : KB K (PySem.W.fnOf "__init__" "Table.__init__" (defArgs st_Table___init__) (defBody st_Table___init__) (defScope st_Table___init__) (.ref dT15) kV15 dc15 pm15 an15 cd15 ct15) ["self", "width", "rows"] 3 [] [.p 0, .p 1, .p 2] := kb_ofE rfl e15 rfl fun us ws h1 h2 => match us, ws, h1, h2 with | [_, _, _], [], _, _ => ⟨_, rfl, rfl⟩
  have F16 : FnG l.prog w K mg base 32 f16 _ ["self"] (sp_Table___len__ K (Ad.mk ad_KEPT_WORDS ad_Table)) := fn_G (k := 31) l16 c16 s_Table___len__ (tb := tb_Table___len__ K (Ad.mk ad_KEPT_WORDS ad_Table)) (gcons ⟨m_len, by decide +kernel⟩ (gnil)) (cl := cl_Table___len__ K (Ad.mk ad_KEPT_WORDS ad_Table)) (mcons ⟨⟨q1_Table, q2_Table, q3_Table, q4_Table⟩, q5_Table, q6_Table, (fun _ e => nomatch e), mnil, mnil, mnil, mcons fl_Table_own_rows (mnil)⟩ (mnil)) (c_Table___len__ K (Ad.mk ad_KEPT_WORDS ad_Table)) (fun vs H Q R z => CW.rd_lenT vs H Q R z)
  have B16_0 : KB K (PySem.W.fnOf "__len__" "Table.__len__" (defArgs st_Table___len__) (defBody st_Table___len__) (defScope st_Table___len__) .none kV16 dc16 pm16 an16 cd16 ct16) ["self"] 1 [] [.p 0] := kb_of rfl fun us ws h1 h2 => match us, ws, h1, h2 with | [_], [], _, _ => rfl
  have F17 : FnG l.prog w K mg base 34 f17 _ ["_law_model", "_law_place_here"] (sp__law_row K (Ad.mk ad_KEPT_WORDS ad_Table)) := fn_G (k := 33) l17 c17 s__law_row (tb := tb__law_row K (Ad.mk ad_KEPT_WORDS ad_Table)) (gcons ⟨rfl, m_range⟩ (gcons ⟨m_len, by decide +kernel⟩ (gnil))) (cl := cl__law_row K (Ad.mk ad_KEPT_WORDS ad_Table)) (mnil) (c__law_row K (Ad.mk ad_KEPT_WORDS ad_Table)) (fun vs H Q R z => CW.rd_lawRow vs H Q R z)
  have B17_0 : KB K (PySem.W.fnOf "_law_row" "_law_row" (defArgs st__law_row) (defBody st__law_row) (defScope st__law_row) .none kV17 dc17 pm17 an17 cd17 ct17) ["_law_model", "_law_place_here"] 2 [] [.p 0, .p 1] := kb_of rfl fun us ws h1 h2 => match us, ws, h1, h2 with | [_, _], [], _, _ => rfl
  have F18 : FnG l.prog w K mg base 36 f18 _ ["width", "value"] (sp_is_address K (Ad.mk ad_KEPT_WORDS ad_Table)) := fn_G (k := 35) l18 c18 s_is_address (tb := tb_is_address K (Ad.mk ad_KEPT_WORDS ad_Table)) (gcons ⟨f8, _, g8, k8, F8.up (by decide), kcons B8_0 (knil)⟩ (gcons ⟨f9, _, g9, k9, F9.up (by decide), kcons B9_0 (knil)⟩ (gcons ⟨m_len, by decide +kernel⟩ (gnil)))) (cl := cl_is_address K (Ad.mk ad_KEPT_WORDS ad_Table)) (mnil) (c_is_address K (Ad.mk ad_KEPT_WORDS ad_Table)) (fun vs H Q R z => CW.rd_isAddress vs H Q R z)
  have B18_0 : KB K (PySem.W.fnOf "is_address" "is_address" (defArgs st_is_address) (defBody st_is_address) (defScope st_is_address) .none kV18 dc18 pm18 an18 cd18 ct18) ["width", "value"] 2 [] [.p 0, .p 1] := kb_of rfl fun us ws h1 h2 => match us, ws, h1, h2 with | [_, _], [], _, _ => rfl
  have F19 : FnG l.prog w K mg base 38 f19 _ ["width", "value"] (sp_want_address K (Ad.mk ad_KEPT_WORDS ad_Table)) := fn_G (k := 37) l19 c19 s_want_address (tb := tb_want_address K (Ad.mk ad_KEPT_WORDS ad_Table)) (gcons ⟨f18, _, g18, k18, F18.up (by decide), kcons B18_0 (knil)⟩ (gnil)) (cl := cl_want_address K (Ad.mk ad_KEPT_WORDS ad_Table)) (mnil) (c_want_address K (Ad.mk ad_KEPT_WORDS ad_Table)) (fun vs H Q R z => CW.rd_wantAddress vs H Q R z)
  have B19_0 : KB K (PySem.W.fnOf "want_address" "want_address" (defArgs st_want_address) (defBody st_want_address) (defScope st_want_address) .none kV19 dc19 pm19 an19 cd19 ct19) ["width", "value"] 2 [] [.p 0, .p 1] := kb_of rfl fun us ws h1 h2 => match us, ws, h1, h2 with | [_, _], [], _, _ => rfl
  have F20 : FnG l.prog w K mg base 40 f20 _ ["self", "address"] (sp_Table_row_of K (Ad.mk ad_KEPT_WORDS ad_Table)) := fn_G (k := 39) l20 c20 s_Table_row_of (tb := tb_Table_row_of K (Ad.mk ad_KEPT_WORDS ad_Table)) (gnil) (cl := cl_Table_row_of K (Ad.mk ad_KEPT_WORDS ad_Table)) (mcons ⟨⟨q1_Table, q2_Table, q3_Table, q4_Table⟩, q5_Table, q6_Table, (fun _ e => nomatch e), mnil, mnil, mnil, mcons fl_Table_own_sizes (mcons fl_Table_own_rows (mnil))⟩ (mnil)) (c_Table_row_of K (Ad.mk ad_KEPT_WORDS ad_Table)) (fun vs H Q R z => CW.rd_rowOf vs H Q R z)
  have B20_0 : KB K (PySem.W.fnOf "row_of" "Table.row_of" (defArgs st_Table_row_of) (defBody st_Table_row_of) (defScope st_Table_row_of) .none kV20 dc20 pm20 an20 cd20 ct20) ["self", "address"] 2 [] [.p 0, .p 1] := kb_of rfl fun us ws h1 h2 => match us, ws, h1, h2 with | [_, _], [], _, _ => rfl
  have F21 : FnG l.prog w K mg base 42 f21 _ ["self", "address"] (sp_Table_goal_of K (Ad.mk ad_KEPT_WORDS ad_Table)) := fn_G (k := 41) l21 c21 s_Table_goal_of (tb := tb_Table_goal_of K (Ad.mk ad_KEPT_WORDS ad_Table)) (gcons ⟨_, m_HOLE, ⟨_, rfl⟩⟩ (gnil)) (cl := cl_Table_goal_of K (Ad.mk ad_KEPT_WORDS ad_Table)) (mcons ⟨⟨q1_Table, q2_Table, q3_Table, q4_Table⟩, q5_Table, q6_Table, (fun _ e => nomatch e), mcons ⟨f20, ⟨a20, n20, k20⟩, p20, ⟨_, 40, F20, by decide, kcons B20_0 (knil)⟩⟩ (mnil), mnil, mnil, mcons fl_Table_own_rows (mnil)⟩ (mnil)) (c_Table_goal_of K (Ad.mk ad_KEPT_WORDS ad_Table)) (fun vs H Q R z => CW.rd_goalOf vs H Q R z)
  have B21_0 : KB K (PySem.W.fnOf "goal_of" "Table.goal_of" (defArgs st_Table_goal_of) (defBody st_Table_goal_of) (defScope st_Table_goal_of) .none kV21 dc21 pm21 an21 cd21 ct21) ["self", "address"] 2 [] [.p 0, .p 1] := kb_of rfl fun us ws h1 h2 => match us, ws, h1, h2 with | [_, _], [], _, _ => rfl
  have F22 : FnG l.prog w K mg base 44 f22 _ ["self", "address"] (sp_Table___call__ K (Ad.mk ad_KEPT_WORDS ad_Table)) := fn_G (k := 43) l22 c22 s_Table___call__ (tb := tb_Table___call__ K (Ad.mk ad_KEPT_WORDS ad_Table)) (gcons ⟨f19, _, g19, k19, F19.up (by decide), kcons B19_0 (knil)⟩ (gnil)) (cl := cl_Table___call__ K (Ad.mk ad_KEPT_WORDS ad_Table)) (mcons ⟨⟨q1_Table, q2_Table, q3_Table, q4_Table⟩, q5_Table, q6_Table, (fun _ e => nomatch e), mcons ⟨f21, ⟨a21, n21, k21⟩, p21, ⟨_, 42, F21, by decide, kcons B21_0 (knil)⟩⟩ (mnil), mnil, mnil, mcons fl_Table_own_width (mnil)⟩ (mnil)) (c_Table___call__ K (Ad.mk ad_KEPT_WORDS ad_Table)) (fun vs H Q R z => CW.rd_call vs H Q R z)
  have B22_0 : KB K (PySem.W.fnOf "__call__" "Table.__call__" (defArgs st_Table___call__) (defBody st_Table___call__) (defScope st_Table___call__) .none kV22 dc22 pm22 an22 cd22 ct22) ["self", "address"] 2 [] [.p 0, .p 1] := kb_of rfl fun us ws h1 h2 => match us, ws, h1, h2 with | [_, _], [], _, _ => rfl
  have F23 : FnG l.prog w K mg base 46 f23 _ ["self", "address"] (sp_Table_row K (Ad.mk ad_KEPT_WORDS ad_Table)) := fn_G (k := 45) l23 c23 s_Table_row (tb := tb_Table_row K (Ad.mk ad_KEPT_WORDS ad_Table)) (gcons ⟨f19, _, g19, k19, F19.up (by decide), kcons B19_0 (knil)⟩ (gnil)) (cl := cl_Table_row K (Ad.mk ad_KEPT_WORDS ad_Table)) (mcons ⟨⟨q1_Table, q2_Table, q3_Table, q4_Table⟩, q5_Table, q6_Table, (fun _ e => nomatch e), mcons ⟨f20, ⟨a20, n20, k20⟩, p20, ⟨_, 40, F20, by decide, kcons B20_0 (knil)⟩⟩ (mnil), mnil, mnil, mcons fl_Table_own_width (mnil)⟩ (mnil)) (c_Table_row K (Ad.mk ad_KEPT_WORDS ad_Table)) (fun vs H Q R z => CW.rd_row vs H Q R z)
  have B23_0 : KB K (PySem.W.fnOf "row" "Table.row" (defArgs st_Table_row) (defBody st_Table_row) (defScope st_Table_row) .none kV23 dc23 pm23 an23 cd23 ct23) ["self", "address"] 2 [] [.p 0, .p 1] := kb_of rfl fun us ws h1 h2 => match us, ws, h1, h2 with | [_, _], [], _, _ => rfl
  have F24 : FnG l.prog w K mg base 48 f24 _ ["_law_made", "_law_model", "_law_place_here"] (sp__law_is_right K (Ad.mk ad_KEPT_WORDS ad_Table)) := fn_G (k := 47) l24 c24 s__law_is_right (tb := tb__law_is_right K (Ad.mk ad_KEPT_WORDS ad_Table)) (gcons ⟨f17, _, g17, k17, F17.up (by decide), kcons B17_0 (knil)⟩ (gcons ⟨m_repr, by decide +kernel⟩ (gnil))) (cl := cl__law_is_right K (Ad.mk ad_KEPT_WORDS ad_Table)) (mcons ⟨⟨q1_Table, q2_Table, q3_Table, q4_Table⟩, q5_Table, q6_Table, (fun _ e => nomatch e), mcons ⟨f22, ⟨a22, n22, k22⟩, p22, ⟨_, 44, F22, by decide, kcons B22_0 (knil)⟩⟩ (mcons ⟨f23, ⟨a23, n23, k23⟩, p23, ⟨_, 46, F23, by decide, kcons B23_0 (knil)⟩⟩ (mnil)), mnil, mnil, mnil⟩ (mnil)) (c__law_is_right K (Ad.mk ad_KEPT_WORDS ad_Table)) (fun vs H Q R z => rd_law_is_right vs H Q R z)
  have B24_0 : KB K (PySem.W.fnOf "_law_is_right" "_law_is_right" (defArgs st__law_is_right) (defBody st__law_is_right) (defScope st__law_is_right) .none kV24 dc24 pm24 an24 cd24 ct24) ["_law_made", "_law_model", "_law_place_here"] 3 [] [.p 0, .p 1, .p 2] := kb_of rfl fun us ws h1 h2 => match us, ws, h1, h2 with | [_, _, _], [], _, _ => rfl
  have F25 : FnG l.prog w K mg base 50 f25 _ ["_law_pot_here", "_law_span", "_law_line", "_law_parts_here"] (sp__law_place K (Ad.mk ad_KEPT_WORDS ad_Table)) := fn_G (k := 49) l25 c25 s__law_place (tb := tb__law_place K (Ad.mk ad_KEPT_WORDS ad_Table)) (gcons ⟨f1, _, g1, k1, F1.up (by decide), kcons B1_0 (knil)⟩ (gcons ⟨f3, _, g3, k3, F3.up (by decide), kcons B3_0 (knil)⟩ (gcons ⟨f2, _, g2, k2, F2.up (by decide), kcons B2_0 (knil)⟩ (gcons ⟨m_len, by decide +kernel⟩ (gcons ⟨f4, _, g4, k4, F4.up (by decide), kcons B4_0 (knil)⟩ (gnil)))))) (cl := cl__law_place K (Ad.mk ad_KEPT_WORDS ad_Table)) (mnil) (c__law_place K (Ad.mk ad_KEPT_WORDS ad_Table)) (fun vs H Q R z => rd_law_place vs H Q R z)
  have B25_0 : KB K (PySem.W.fnOf "_law_place" "_law_place" (defArgs st__law_place) (defBody st__law_place) (defScope st__law_place) .none kV25 dc25 pm25 an25 cd25 ct25) ["_law_pot_here", "_law_span", "_law_line", "_law_parts_here"] 4 [] [.p 0, .p 1, .p 2, .p 3] := kb_of rfl fun us ws h1 h2 => match us, ws, h1, h2 with | [_, _, _, _], [], _, _ => rfl
  have F26 : FnG l.prog w K mg base 52 f26 _ ["self", "value"] (sp_Table___contains__ K (Ad.mk ad_KEPT_WORDS ad_Table)) := fn_G (k := 51) l26 c26 s_Table___contains__ (tb := tb_Table___contains__ K (Ad.mk ad_KEPT_WORDS ad_Table)) (gcons ⟨m_isinstance, by decide +kernel⟩ (gcons ⟨m_str, by decide +kernel, fun b e => by cases e <;> rfl⟩ (gnil))) (cl := cl_Table___contains__ K (Ad.mk ad_KEPT_WORDS ad_Table)) (mcons ⟨⟨q1_Table, q2_Table, q3_Table, q4_Table⟩, q5_Table, q6_Table, (fun _ e => nomatch e), mnil, mnil, mnil, mcons fl_Table_own_rows (mnil)⟩ (mnil)) (c_Table___contains__ K (Ad.mk ad_KEPT_WORDS ad_Table)) (fun vs H Q R z => CW.rd_contains vs H Q R z)
  have B26_0 : KB K (PySem.W.fnOf "__contains__" "Table.__contains__" (defArgs st_Table___contains__) (defBody st_Table___contains__) (defScope st_Table___contains__) .none kV26 dc26 pm26 an26 cd26 ct26) ["self", "value"] 2 [] [.p 0, .p 1] := kb_of rfl fun us ws h1 h2 => match us, ws, h1, h2 with | [_, _], [], _, _ => rfl
  have F27 : FnG l.prog w K mg base 54 f27 _ ["self", "stretch"] (sp_Table___sub__ K (Ad.mk ad_KEPT_WORDS ad_Table)) := fn_G (k := 53) l27 c27 s_Table___sub__ (tb := tb_Table___sub__ K (Ad.mk ad_KEPT_WORDS ad_Table)) (gcons ⟨m_Table, ⟨⟨q1_Table, q2_Table, q3_Table, q4_Table⟩, q5_Table, q6_Table, (fun mi e => by cases e; exact ⟨f15, ⟨q7_Table, a15, n15, q8_Table⟩, ⟨_, 30, F15, by decide, kcons B15_0 (knil)⟩⟩), mnil, mnil, mnil, mnil⟩⟩ (gnil)) (cl := cl_Table___sub__ K (Ad.mk ad_KEPT_WORDS ad_Table)) (mcons ⟨⟨q1_Table, q2_Table, q3_Table, q4_Table⟩, q5_Table, q6_Table, (fun _ e => nomatch e), mcons ⟨f26, ⟨a26, n26, k26⟩, p26, ⟨_, 52, F26, by decide, kcons B26_0 (knil)⟩⟩ (mnil), mnil, mnil, mcons fl_Table_own_rows (mcons fl_Table_own_width (mnil))⟩ (mnil)) (c_Table___sub__ K (Ad.mk ad_KEPT_WORDS ad_Table)) (fun vs H Q R z => CW.rd_sub vs H Q R z)
  have B27_0 : KB K (PySem.W.fnOf "__sub__" "Table.__sub__" (defArgs st_Table___sub__) (defBody st_Table___sub__) (defScope st_Table___sub__) .none kV27 dc27 pm27 an27 cd27 ct27) ["self", "stretch"] 2 [] [.p 0, .p 1] := kb_of rfl fun us ws h1 h2 => match us, ws, h1, h2 with | [_, _], [], _, _ => rfl
  have F28 : FnG l.prog w K mg base 56 f28 _ ["self", "row"] (sp_Table___add__ K (Ad.mk ad_KEPT_WORDS ad_Table)) := fn_G (k := 55) l28 c28 s_Table___add__ (tb := tb_Table___add__ K (Ad.mk ad_KEPT_WORDS ad_Table)) (gcons ⟨f13, _, g13, k13, F13.up (by decide), kcons B13_0 (knil)⟩ (gcons ⟨m_Table, ⟨⟨q1_Table, q2_Table, q3_Table, q4_Table⟩, q5_Table, q6_Table, (fun mi e => by cases e; exact ⟨f15, ⟨q7_Table, a15, n15, q8_Table⟩, ⟨_, 30, F15, by decide, kcons B15_0 (knil)⟩⟩), mnil, mnil, mnil, mnil⟩⟩ (gnil))) (cl := cl_Table___add__ K (Ad.mk ad_KEPT_WORDS ad_Table)) (mcons ⟨⟨q1_Table, q2_Table, q3_Table, q4_Table⟩, q5_Table, q6_Table, (fun _ e => nomatch e), mnil, mnil, mnil, mcons fl_Table_own_width (mcons fl_Table_own_rows (mnil))⟩ (mnil)) (c_Table___add__ K (Ad.mk ad_KEPT_WORDS ad_Table)) (fun vs H Q R z => CW.rd_add vs H Q R z)
  have B28_0 : KB K (PySem.W.fnOf "__add__" "Table.__add__" (defArgs st_Table___add__) (defBody st_Table___add__) (defScope st_Table___add__) .none kV28 dc28 pm28 an28 cd28 ct28) ["self", "row"] 2 [] [.p 0, .p 1] := kb_of rfl fun us ws h1 h2 => match us, ws, h1, h2 with | [_, _], [], _, _ => rfl
  have F29 : FnG l.prog w K mg base 58 f29 _ ["_law_pot_here"] (sp__law_right K (Ad.mk ad_KEPT_WORDS ad_Table)) := fn_G (k := 57) l29 c29 s__law_right (tb := tb__law_right K (Ad.mk ad_KEPT_WORDS ad_Table)) (gcons ⟨f2, _, g2, k2, F2.up (by decide), kcons B2_0 (knil)⟩ (gcons ⟨f5, _, g5, k5, F5.up (by decide), kcons B5_0 (knil)⟩ (gcons ⟨m_dict, by decide +kernel, fun b e => by cases e <;> rfl⟩ (gcons ⟨m_Table, ⟨⟨q1_Table, q2_Table, q3_Table, q4_Table⟩, q5_Table, q6_Table, (fun mi e => by cases e; exact ⟨f15, ⟨q7_Table, a15, n15, q8_Table⟩, ⟨_, 30, F15, by decide, kcons B15_0 (knil)⟩⟩), mnil, mnil, mnil, mnil⟩⟩ (gcons ⟨m_len, by decide +kernel⟩ (gcons ⟨f24, _, g24, k24, F24.up (by decide), kcons B24_0 (knil)⟩ (gcons ⟨rfl, m_range⟩ (gcons ⟨f25, _, g25, k25, F25.up (by decide), kcons B25_0 (knil)⟩ (gcons ⟨f17, _, g17, k17, F17.up (by decide), kcons B17_0 (knil)⟩ (gcons ⟨m_list, by decide +kernel, fun b e => by cases e <;> rfl⟩ (gcons ⟨m_int, by decide +kernel, fun b e => by cases e <;> rfl⟩ (gcons ⟨f4, _, g4, k4, F4.up (by decide), kcons B4_0 (knil)⟩ (gnil))))))))))))) (cl := cl__law_right K (Ad.mk ad_KEPT_WORDS ad_Table)) (mcons ⟨⟨q1_Table, q2_Table, q3_Table, q4_Table⟩, q5_Table, q6_Table, (fun _ e => nomatch e), mcons ⟨f16, ⟨a16, n16, k16⟩, p16, ⟨_, 32, F16, by decide, kcons B16_0 (knil)⟩⟩ (mcons ⟨f27, ⟨a27, n27, k27⟩, p27, ⟨_, 54, F27, by decide, kcons B27_0 (knil)⟩⟩ (mcons ⟨f22, ⟨a22, n22, k22⟩, p22, ⟨_, 44, F22, by decide, kcons B22_0 (knil)⟩⟩ (mcons ⟨f28, ⟨a28, n28, k28⟩, p28, ⟨_, 56, F28, by decide, kcons B28_0 (knil)⟩⟩ (mnil)))), mnil, mnil, mnil⟩ (mnil)) (c__law_right K (Ad.mk ad_KEPT_WORDS ad_Table)) (fun vs H Q R z => rd_law_right vs H Q R z)
  have B29_0 : KB K (PySem.W.fnOf "_law_right" "_law_right" (defArgs st__law_right) (defBody st__law_right) (defScope st__law_right) .none kV29 dc29 pm29 an29 cd29 ct29) ["_law_pot_here"] 1 [] [.p 0] := kb_of rfl fun us ws h1 h2 => match us, ws, h1, h2 with | [_], [], _, _ => rfl
  have F30 : FnG l.prog w K mg base 60 f30 _ ["_law_script", "_law_k"] (sp__law_pot K (Ad.mk ad_KEPT_WORDS ad_Table)) := fn_G (k := 59) l30 c30 s__law_pot (tb := tb__law_pot K (Ad.mk ad_KEPT_WORDS ad_Table)) (gcons ⟨m_len, by decide +kernel⟩ (gcons ⟨m_abs, by decide +kernel⟩ (gcons ⟨m_int, by decide +kernel, fun b e => by cases e <;> rfl⟩ (gcons ⟨m_max, by decide +kernel⟩ (gnil))))) (cl := cl__law_pot K (Ad.mk ad_KEPT_WORDS ad_Table)) (mnil) (c__law_pot K (Ad.mk ad_KEPT_WORDS ad_Table)) (fun vs H Q R z => CW.rd_pot (by decide) (by decide) (by decide) (by decide) (by decide) (by decide) (by decide) (by decide) vs H Q R z)
  have B30_0 : KB K (PySem.W.fnOf "_law_pot" "_law_pot" (defArgs st__law_pot) (defBody st__law_pot) (defScope st__law_pot) .none kV30 dc30 pm30 an30 cd30 ct30) ["_law_script", "_law_k"] 2 [] [.p 0, .p 1] := kb_of rfl fun us ws h1 h2 => match us, ws, h1, h2 with | [_, _], [], _, _ => rfl
  have F31 : FnG l.prog w K mg base 62 fa _ ["_law_script"] (sp_law K (Ad.mk ad_KEPT_WORDS ad_Table)) := fn_G (k := 61) l31 c31 s_law (tb := tb_law K (Ad.mk ad_KEPT_WORDS ad_Table)) (gcons ⟨m_all, by decide +kernel⟩ (gcons ⟨rfl, m_range⟩ (gcons ⟨m_max, by decide +kernel⟩ (gcons ⟨m_min, by decide +kernel⟩ (gcons ⟨m_len, by decide +kernel⟩ (gcons ⟨f29, _, g29, k29, F29.up (by decide), kcons B29_0 (knil)⟩ (gcons ⟨f30, _, g30, k30, F30.up (by decide), kcons B30_0 (knil)⟩ (gnil)))))))) (cl := cl_law K (Ad.mk ad_KEPT_WORDS ad_Table)) (mnil) (c_law K (Ad.mk ad_KEPT_WORDS ad_Table)) (fun vs H Q R z => CW.rd_lawB (c := 4) (by decide) vs H Q R z)
  exact F31

end L17
open PySem PySem.W PyProof.Rows in
set_option maxRecDepth 100000 in
set_option maxHeartbeats 0 in
theorem PySem.Challenge.cw_coverways_k17_goals_of_wide_addresses_holds : PySem.Challenge.rw_coverways_k17_goals_of_wide_addresses.Holds := by
  w_on; o_law; k_head; (case hw => w_witness2)
  k_fill
  refine CW.walk_G (l := PySem.Challenge.rw_coverways_k17_goals_of_wide_addresses) (n := 63) (k := 62) (x := "_law_script") (sp := fun K => L17.sp_law K L17.Ad0) rfl (by decide) rfl ⟨rfl, by decide, by decide⟩ (fun w h Y => PySem.W.kIn_of Y) ?F (fun K H a ns hl _ hS => ⟨a, ns, rfl, hS, hl, fun _ => rfl⟩)
  case F =>
    intro w mg fa h KX G hmg
    refine' L17.all_mk KX G hmg ?v_Table ?q1_Table ?q2_Table ?q3_Table ?q4_Table ?q5_Table ?q6_Table ?q7_Table ?q8_Table ?fl_Table_own_rows ?fl_Table_own_sizes ?fl_Table_own_width ?cs_Table_MOST_ROWS ?cg_Table_MOST_ROWS ?a1 ?l1 ?c1 ?k1 ?a2 ?l2 ?c2 ?k2 ?a3 ?l3 ?c3 ?k3 ?a4 ?l4 ?c4 ?k4 ?a5 ?l5 ?c5 ?k5 ?a6 ?l6 ?c6 ?k6 ?a7 ?l7 ?c7 ?k7 ?a8 ?l8 ?c8 ?k8 ?a9 ?l9 ?c9 ?k9 ?a10 ?l10 ?c10 ?k10 ?a11 ?l11 ?c11 ?k11 ?a12 ?l12 ?c12 ?k12 ?a13 ?l13 ?c13 ?k13 ?a14 ?l14 ?c14 ?k14 ?a15 ?l15 ?c15 ?k15 ?n15 ?p15 ?e15 ?a16 ?l16 ?c16 ?k16 ?n16 ?p16 ?a17 ?l17 ?c17 ?k17 ?a18 ?l18 ?c18 ?k18 ?a19 ?l19 ?c19 ?k19 ?a20 ?l20 ?c20 ?k20 ?n20 ?p20 ?a21 ?l21 ?c21 ?k21 ?n21 ?p21 ?a22 ?l22 ?c22 ?k22 ?n22 ?p22 ?a23 ?l23 ?c23 ?k23 ?n23 ?p23 ?a24 ?l24 ?c24 ?k24 ?a25 ?l25 ?c25 ?k25 ?a26 ?l26 ?c26 ?k26 ?n26 ?p26 ?a27 ?l27 ?c27 ?k27 ?n27 ?p27 ?a28 ?l28 ?c28 ?k28 ?n28 ?p28 ?a29 ?l29 ?c29 ?k29 ?a30 ?l30 ?c30 ?k30 ?a31 ?l31 ?c31 ?k31 ?v_HOLE ?v_HOME ?v_KEPT_WORDS ?w_KEPT_WORDS ?y_KEPT_WORDS ?z_KEPT_WORDS ?v_LETTERS ?v_LONGEST_NAME ?v_MOST_WIDTH ?z_abs ?z_all ?z_bool ?z_dict ?z_divmod ?z_int ?z_isinstance ?z_len ?z_list ?z_max ?z_min ?z_range ?z_repr ?z_sorted ?z_str ?z_tuple
    (case v_Table => k_is); (case q1_Table => k_is); (case q2_Table => k_is); (case q3_Table => k_is); (case q4_Table => k_is); (case q5_Table => k_is); (case q6_Table => k_is); (case q7_Table => k_is); (case q8_Table => k_is); (case fl_Table_own_rows => k_is); (case fl_Table_own_sizes => k_is); (case fl_Table_own_width => k_is); (case cs_Table_MOST_ROWS => k_is); (case cg_Table_MOST_ROWS => k_is); (case a1 => k_is); (case l1 => k_is); (case c1 => k_is); (case k1 => k_is); (case a2 => k_is); (case l2 => k_is); (case c2 => k_is); (case k2 => k_is); (case a3 => k_is); (case l3 => k_is); (case c3 => k_is); (case k3 => k_is); (case a4 => k_is); (case l4 => k_is); (case c4 => k_is); (case k4 => k_is); (case a5 => k_is); (case l5 => k_is); (case c5 => k_is); (case k5 => k_is); (case a6 => k_is); (case l6 => k_is); (case c6 => k_is); (case k6 => k_is); (case a7 => k_is); (case l7 => k_is); (case c7 => k_is); (case k7 => k_is); (case a8 => k_is); (case l8 => k_is); (case c8 => k_is); (case k8 => k_is); (case a9 => k_is); (case l9 => k_is); (case c9 => k_is); (case k9 => k_is); (case a10 => k_is); (case l10 => k_is); (case c10 => k_is); (case k10 => k_is); (case a11 => k_is); (case l11 => k_is); (case c11 => k_is); (case k11 => k_is); (case a12 => k_is); (case l12 => k_is); (case c12 => k_is); (case k12 => k_is); (case a13 => k_is); (case l13 => k_is); (case c13 => k_is); (case k13 => k_is); (case a14 => k_is); (case l14 => k_is); (case c14 => k_is); (case k14 => k_is); (case a15 => k_is); (case l15 => k_is); (case c15 => k_is); (case k15 => k_is); (case n15 => k_is); (case p15 => k_is); (case e15 => k_is); (case a16 => k_is); (case l16 => k_is); (case c16 => k_is); (case k16 => k_is); (case n16 => k_is); (case p16 => k_is); (case a17 => k_is); (case l17 => k_is); (case c17 => k_is); (case k17 => k_is); (case a18 => k_is); (case l18 => k_is); (case c18 => k_is); (case k18 => k_is); (case a19 => k_is); (case l19 => k_is); (case c19 => k_is); (case k19 => k_is); (case a20 => k_is); (case l20 => k_is); (case c20 => k_is); (case k20 => k_is); (case n20 => k_is); (case p20 => k_is); (case a21 => k_is); (case l21 => k_is); (case c21 => k_is); (case k21 => k_is); (case n21 => k_is); (case p21 => k_is); (case a22 => k_is); (case l22 => k_is); (case c22 => k_is); (case k22 => k_is); (case n22 => k_is); (case p22 => k_is); (case a23 => k_is); (case l23 => k_is); (case c23 => k_is); (case k23 => k_is); (case n23 => k_is); (case p23 => k_is); (case a24 => k_is); (case l24 => k_is); (case c24 => k_is); (case k24 => k_is); (case a25 => k_is); (case l25 => k_is); (case c25 => k_is); (case k25 => k_is); (case a26 => k_is); (case l26 => k_is); (case c26 => k_is); (case k26 => k_is); (case n26 => k_is); (case p26 => k_is); (case a27 => k_is); (case l27 => k_is); (case c27 => k_is); (case k27 => k_is); (case n27 => k_is); (case p27 => k_is); (case a28 => k_is); (case l28 => k_is); (case c28 => k_is); (case k28 => k_is); (case n28 => k_is); (case p28 => k_is); (case a29 => k_is); (case l29 => k_is); (case c29 => k_is); (case k29 => k_is); (case a30 => k_is); (case l30 => k_is); (case c30 => k_is); (case k30 => k_is); (case a31 => k_is); (case l31 => k_is); (case c31 => k_is); (case k31 => k_is); (case v_HOLE => k_is); (case v_HOME => k_is); (case v_KEPT_WORDS => k_is); (case w_KEPT_WORDS => k_is); (case y_KEPT_WORDS => decide); (case z_KEPT_WORDS => decide +kernel); (case v_LETTERS => k_is); (case v_LONGEST_NAME => k_is); (case v_MOST_WIDTH => k_is); (case z_abs => k_is); (case z_all => k_is); (case z_bool => k_is); (case z_dict => k_is); (case z_divmod => k_is); (case z_int => k_is); (case z_isinstance => k_is); (case z_len => k_is); (case z_list => k_is); (case z_max => k_is); (case z_min => k_is); (case z_range => k_is); (case z_repr => k_is); (case z_sorted => k_is); (case z_str => k_is); (case z_tuple => k_is)
