import PyProof.Rows.All
import Wide.All
import OpenK.AllK
import Wide.FinOn
import HandS.ForMost
import HandS.Defaults
import HandS.IsInst
import HandS.TupAny
import HandS.CallLocal
import HandS.More
import HandS.Wide
import HandS.Style
import HandS.Flow
import KE.GoesEnum
import HandS.Codes
import HandS.HeadHook1
import HandS.HeadHook2
import HandS.HeadHook3
import PySem.Challenge.RW_widewords_k28_whole_shifts_and_sums
import HandS.Head0
import HandS.Head1
import HandS.Head2
import HandS.HeadEnd
set_option Elab.async false
set_option linter.all false
set_option maxRecDepth 100000
set_option maxHeartbeats 4000000
/-! W1: data (D) that stands in the heap (Rep), and what a reading evaluates to over data (EvD, EvA, EvT, RunS). -/
namespace Ww
open PySem L2

/-! ### data -/
inductive D where
  | v (x : V)
  | t (ds : List D)
abbrev D.i (n : Int) : D := .v (.int n)
abbrev D.s (x : Str) : D := .v (.str x)
abbrev D.b (x : Bool) : D := .v (.bl x)

def imm : HO → Bool
  | .tup _ => true
  | .frz _ _ => true
  | _ => false
/-- what never changes has stayed -/
def Stay (H H' : Hp) : Prop := ∀ b o, H b = some o → imm o = true → H' b = some o
theorem Stay.refl (H : Hp) : Stay H H := fun _ _ h _ => h
theorem Stay.trans {H H1 H2 : Hp} (a : Stay H H1) (b : Stay H1 H2) : Stay H H2 := fun c o h i => b c o (a c o h i) i
theorem Stay.same {H H' : Hp} (e : Same H H') : Stay H H' := fun c o h _ => e c o h
theorem Stay.upd {H : Hp} {p : Addr} {o u : HO} (h : H p = some o) (hi : imm o = false) : Stay H (upd H p u) := fun b x e i => by
  have n : b ≠ p := fun q => by
    rw [q, h] at e
    cases e
    rw [hi] at i
    cases i
  rw [upd_ne n]
  exact e
theorem Same.new {H : Hp} {p : Addr} {o : HO} (h : H p = none) : Same H (upd H p o) := fun a u e => by
  rw [upd_ne (ne_of_none e h)]
  exact e
theorem Stay.tup {H H' : Hp} {a : Addr} {xs : List V} (e : Stay H H') (h : H a = some (.tup xs)) : H' a = some (.tup xs) := e _ _ h rfl
theorem Stay.seqT {K : PySem.W.Frag} {H H' : Hp} {a : Addr} {xs : List V} (e : Stay H H') (h : SqT K H a xs) : SqT K H' a xs := by
  rcases h with (h | ⟨o, h⟩) | h
  · exact .inl (.inl (e _ _ h rfl))
  · exact .inl (.inr ⟨o, e _ _ h rfl⟩)
  · exact .inr h

mutual
inductive Rep (K : PySem.W.Frag) (H : Hp) : V → D → Prop
  | v (x : V) : Rep K H x (.v x)
  | t {a : Addr} {vs : List V} {ds : List D} (h : SqT K H a vs) (r : RepL K H vs ds) : Rep K H (.ref a) (.t ds)
inductive RepL (K : PySem.W.Frag) (H : Hp) : List V → List D → Prop
  | nil : RepL K H [] []
  | cons {v : V} {d : D} {vs : List V} {ds : List D} (h : Rep K H v d) (r : RepL K H vs ds) : RepL K H (v :: vs) (d :: ds)
end

mutual
theorem Rep.mono {K : PySem.W.Frag} {H H' : Hp} {v : V} {d : D} (e : Stay H H') : Rep K H v d → Rep K H' v d
  | .v x => .v x
  | .t h r => .t (e.seqT h) (RepL.mono e r)
theorem RepL.mono {K : PySem.W.Frag} {H H' : Hp} {vs : List V} {ds : List D} (e : Stay H H') : RepL K H vs ds → RepL K H' vs ds
  | .nil => .nil
  | .cons h r => .cons (Rep.mono e h) (RepL.mono e r)
end

section
variable {K : PySem.W.Frag} {H H' : Hp}
theorem Rep.val {v x : V} (h : Rep K H v (.v x)) : v = x := by
  cases h
  rfl
theorem Rep.tup {v : V} {ds : List D} (h : Rep K H v (.t ds)) : ∃ a vs, v = .ref a ∧ SqT K H a vs ∧ RepL K H vs ds := by
  cases h with
  | t h r => exact ⟨_, _, rfl, h, r⟩
theorem RepL.length : ∀ {vs : List V} {ds : List D}, RepL K H vs ds → vs.length = ds.length
  | _, _, .nil => rfl
  | _, _, .cons _ r => congrArg Nat.succ r.length
theorem RepL.get : ∀ {vs : List V} {ds : List D} {i : Nat} {d : D}, RepL K H vs ds → ds[i]? = some d → ∃ v, vs[i]? = some v ∧ Rep K H v d
  | _, _, i, _, .nil, e => by simp at e
  | _, _, 0, _, .cons h _, e => by
    simp at e
    subst e
    exact ⟨_, rfl, h⟩
  | _, _, i + 1, d, .cons _ r, e => by
    obtain ⟨v, h1, h2⟩ := RepL.get (i := i) (d := d) r (by simpa using e)
    exact ⟨v, by simpa using h1, h2⟩
theorem RepL.get' : ∀ {vs : List V} {ds : List D} {i : Nat} {v : V}, RepL K H vs ds → vs[i]? = some v → ∃ d, ds[i]? = some d ∧ Rep K H v d
  | _, _, i, _, .nil, e => by simp at e
  | _, _, 0, _, .cons h _, e => by
    simp at e
    subst e
    exact ⟨_, rfl, h⟩
  | _, _, i + 1, v, .cons _ r, e => by
    obtain ⟨d, h1, h2⟩ := RepL.get' (i := i) (v := v) r (by simpa using e)
    exact ⟨d, by simpa using h1, h2⟩
theorem RepL.append : ∀ {vs ws : List V} {ds es : List D}, RepL K H vs ds → RepL K H ws es → RepL K H (vs ++ ws) (ds ++ es)
  | _, _, _, _, .nil, s => s
  | _, _, _, _, .cons h r, s => .cons h (r.append s)
theorem RepL.drop : ∀ {vs : List V} {ds : List D} (n : Nat), RepL K H vs ds → RepL K H (vs.drop n) (ds.drop n)
  | _, _, 0, r => r
  | _, _, _ + 1, .nil => .nil
  | _, _, n + 1, .cons _ r => RepL.drop n r
theorem RepL.take : ∀ {vs : List V} {ds : List D} (n : Nat), RepL K H vs ds → RepL K H (vs.take n) (ds.take n)
  | _, _, 0, _ => .nil
  | _, _, _ + 1, .nil => .nil
  | _, _, n + 1, .cons h r => .cons h (RepL.take n r)
theorem RepL.ints : ∀ (ns : List Int), RepL K H (ns.map V.int) (ns.map D.i)
  | [] => .nil
  | _ :: r => .cons (.v _) (RepL.ints r)
theorem RepL.vals : ∀ (xs : List V), RepL K H xs (xs.map D.v)
  | [] => .nil
  | _ :: r => .cons (.v _) (RepL.vals r)
theorem RepL.vals_eq : ∀ {vs xs : List V}, RepL K H vs (xs.map D.v) → vs = xs
  | _, [], .nil => rfl
  | _, _ :: _, .cons h r => by
    rw [h.val, r.vals_eq]
theorem Rep.same {v : V} {d : D} (e : Same H H') (h : Rep K H v d) : Rep K H' v d := h.mono (Stay.same e)
theorem RepL.same {vs : List V} {ds : List D} (e : Same H H') (h : RepL K H vs ds) : RepL K H' vs ds := h.mono (Stay.same e)
theorem RepL.one {v : V} {d : D} (h : Rep K H v d) : RepL K H [v] [d] := .cons h .nil
theorem RepL.snoc {vs : List V} {ds : List D} {v : V} {d : D} (r : RepL K H vs ds) (h : Rep K H v d) : RepL K H (vs ++ [v]) (ds ++ [d]) := r.append (.cons h .nil)
/-- of a written part's or a tracked tuple -/
theorem Rep.of {a : Addr} {vs : List V} {ds : List D} (h : H a = some (.tup vs)) (r : RepL K H vs ds) : Rep K H (.ref a) (.t ds) := .t (.inl (.inl h)) r
end

/-! ### slots -/
def SlotR (K : PySem.W.Frag) (H : Hp) : Option V → Option D → Prop
  | some v, some d => Rep K H v d
  | none, some _ => False
  | _, none => True
abbrev DS := List (Option D)
inductive FrD (K : PySem.W.Frag) (H : Hp) : L2.St → DS → Prop
  | nil : FrD K H [] []
  | cons {o : Option V} {x : Option D} {σ : L2.St} {δ : DS} (h : SlotR K H o x) (r : FrD K H σ δ) : FrD K H (o :: σ) (x :: δ)
section
variable {K : PySem.W.Frag} {H H' : Hp}
theorem SlotR.mono (e : Stay H H') : ∀ {o : Option V} {x : Option D}, SlotR K H o x → SlotR K H' o x
  | some _, some _, h => Rep.mono e h
  | some _, none, _ => trivial
  | none, none, _ => trivial
  | none, some _, h => h
theorem FrD.mono (e : Stay H H') : ∀ {σ : L2.St} {δ : DS}, FrD K H σ δ → FrD K H' σ δ
  | _, _, .nil => .nil
  | _, _, .cons h r => .cons (h.mono e) (r.mono e)
theorem FrD.same {σ : L2.St} {δ : DS} (e : Same H H') (h : FrD K H σ δ) : FrD K H' σ δ := h.mono (Stay.same e)
theorem FrD.get : ∀ {σ : L2.St} {δ : DS} {i : Nat} {d : D}, FrD K H σ δ → δ[i]? = some (some d) → ∃ v, σ[i]? = some (some v) ∧ Rep K H v d
  | _, _, i, _, .nil, e => by simp at e
  | _, _, 0, d, .cons (o := o) h _, e => by
    simp at e
    subst e
    cases o with
    | none => exact h.elim
    | some v => exact ⟨v, rfl, h⟩
  | _, _, i + 1, d, .cons _ r, e => by
    obtain ⟨v, h1, h2⟩ := FrD.get (i := i) (d := d) r (by simpa using e)
    exact ⟨v, by simpa using h1, h2⟩
theorem FrD.set {v : V} {d : D} (h : Rep K H v d) : ∀ {σ : L2.St} {δ : DS} (i : Nat), FrD K H σ δ → FrD K H (σ.set i (some v)) (δ.set i (some d))
  | _, _, _, .nil => .nil
  | _, _, 0, .cons _ r => .cons h r
  | _, _, i + 1, .cons q r => .cons q (FrD.set h i r)
theorem FrD.setNone : ∀ {σ : L2.St} {δ : DS} (i : Nat), FrD K H σ δ → FrD K H (σ.set i none) (δ.set i none)
  | _, _, _, .nil => .nil
  | _, _, 0, .cons _ r => .cons (by trivial) r
  | _, _, i + 1, .cons q r => .cons q (FrD.setNone i r)
theorem FrD.length : ∀ {σ : L2.St} {δ : DS}, FrD K H σ δ → σ.length = δ.length
  | _, _, .nil => rfl
  | _, _, .cons _ r => congrArg Nat.succ r.length
theorem FrD.vals : ∀ {vs : List V} {ds : List D}, RepL K H vs ds → FrD K H (vs.map some) (ds.map some)
  | _, _, .nil => .nil
  | _, _, .cons h r => .cons h (FrD.vals r)
theorem FrD.nones : ∀ (n : Nat), FrD K H (List.replicate n none) (List.replicate n none)
  | 0 => .nil
  | n + 1 => .cons trivial (FrD.nones n)
theorem FrD.append : ∀ {σ σ' : L2.St} {δ δ' : DS}, FrD K H σ δ → FrD K H σ' δ' → FrD K H (σ ++ σ') (δ ++ δ')
  | _, _, _, _, .nil, s => s
  | _, _, _, _, .cons h r, s => .cons h (r.append s)
def startD (n : Nat) (ds : List D) : DS := ds.map some ++ List.replicate (n - ds.length) none
theorem FrD.start {N : List Str} {vs : List V} {ds : List D} (r : RepL K H vs ds) : FrD K H (L2.start N vs) (startD N.length ds) := by
  unfold L2.start startD
  rw [r.length]
  exact (FrD.vals r).append (FrD.nones _)
end

/-! ### what a reading evaluates to -/
def EvD (K : PySem.W.Frag) (te : TE) (δ : DS) (d : D) : Prop := ∀ (σ : L2.St) (H : Hp) (Q : VK), FrD K H σ δ → (∀ v H2, Same H H2 → Rep K H2 v d → Q v H2) → te σ H Q
def EvA (K : PySem.W.Frag) (ta : TA) (δ : DS) (ds : List D) : Prop := ∀ (σ : L2.St) (H : Hp) (Q : List V → Hp → Prop), FrD K H σ δ → (∀ vs H2, Same H H2 → RepL K H2 vs ds → Q vs H2) → ta σ H Q
def EvT (K : PySem.W.Frag) (tt : TT) (δ : DS) (b : Bool) : Prop := ∀ (σ : L2.St) (H : Hp) (Q : Bool → Hp → Prop), FrD K H σ δ → (∀ H2, Same H H2 → Q b H2) → tt σ H Q
/-- a body that hands back r -/
def RunS (K : PySem.W.Frag) (ts : TS) (δ : DS) (r : D) : Prop := ∀ (σ : L2.St) (H : Hp) (E : Ends), FrD K H σ δ → (∀ v H2, Same H H2 → Rep K H2 v r → E.rt v H2) → ts E σ H
/-- a block that goes on, with the slots δ' -/
def RunN (K : PySem.W.Frag) (ts : TS) (δ δ' : DS) : Prop := ∀ (σ : L2.St) (H : Hp) (E : Ends), FrD K H σ δ → (∀ σ2 H2, Same H H2 → FrD K H2 σ2 δ' → E.nx σ2 H2) → ts E σ H

section
variable {K : PySem.W.Frag} {δ δ' : DS} {ta tb tc te : TE} {tt tu : TT} {d e r : D} {ds es : List D} {i : Nat} {x y : V} {b c : Bool}
theorem ev_var (h : δ[i]? = some (some d)) : EvD K (tVar i) δ d := fun σ H Q F q => by
  obtain ⟨v, h1, h2⟩ := F.get h
  exact ⟨v, h1, q v H (Same.refl H) h2⟩
theorem ev_c : EvD K (tC x) δ (.v x) := fun σ H Q F q => q x H (Same.refl H) (.v x)
/-- a constant tuple of the module -/
theorem ev_g {a : Addr} {vs : List V} (h : ∀ H, SqT K H a vs) (r : ∀ H, RepL K H vs ds) : EvD K (tC (.ref a)) δ (.t ds) := fun σ H Q F q => q _ H (Same.refl H) (.t (h H) (r H))
theorem ev_gr (h : ∀ H, Rep K H x d) : EvD K (tC x) δ d := fun σ H Q F q => q _ H (Same.refl H) (h H)
theorem ea_nil : EvA K tNil δ [] := fun σ H Q F q => q [] H (Same.refl H) .nil
theorem ea_cons {ta : TE} {tr : TA} (h : EvD K ta δ d) (hr : EvA K tr δ ds) : EvA K (tCons ta tr) δ (d :: ds) := fun σ H Q F q =>
  h σ H _ F fun v H1 e1 r1 => hr σ H1 _ (F.same e1) fun vs H2 e2 r2 => q _ H2 (e1.trans e2) (.cons (r1.same e2) r2)
theorem ev_tup {t : TA} (h : EvA K t δ ds) (hl : Nat.ble ds.length 100000 = true := by rfl) : EvD K (tTup t) δ (.t ds) := fun σ H Q F q =>
  h σ H _ F fun vs H1 e1 r1 => ⟨by
    rw [r1.length]
    exact Nat.le_trans (Nat.le_of_ble_eq_true hl) (by decide), fun p hp => q _ _ (e1.trans (Same.new hp)) (.of upd_same (r1.same (Same.new hp)))⟩
/-- two values -/
theorem ev_op {rr : R2} (ha : EvD K ta δ (.v x)) (hb : EvD K tb δ (.v y)) (hr : ∀ H (Q : VK), Q e' H → rr x y H Q) : EvD K (tOp rr ta tb) δ (.v e') := fun σ H Q F q =>
  ha σ H _ F fun v H1 e1 r1 => hb σ H1 _ (F.same e1) fun u H2 e2 r2 => by
    cases r1.val
    cases r2.val
    exact hr H2 Q (q _ H2 (e1.trans e2) (.v _))
theorem ev_int0 {g : Int → Int → V} {n m : Int} (ha : EvD K ta δ (.i n)) (hb : EvD K tb δ (.i m)) : EvD K (tOp (rI0 g) ta tb) δ (.v (g n m)) := ev_op ha hb fun H Q q => ⟨n, m, rfl, rfl, q⟩
theorem ev_int {C : Int → Int → Prop} {g : Int → Int → V} {n m : Int} (ha : EvD K ta δ (.i n)) (hb : EvD K tb δ (.i m)) (hc : C n m) : EvD K (tOp (rI C g) ta tb) δ (.v (g n m)) := ev_op ha hb fun H Q q => ⟨n, m, rfl, rfl, hc, q⟩
theorem ev_un {g : Int → V} {n : Int} (ha : EvD K ta δ (.i n)) : EvD K (tUn (rU g) ta) δ (.v (g n)) := fun σ H Q F q =>
  ha σ H _ F fun v H1 e1 r1 => by
    cases r1.val
    exact ⟨n, rfl, q _ H1 e1 (.v _)⟩
theorem ev_eq (ha : EvD K ta δ (.v x)) (hb : EvD K tb δ (.v y)) (hs : scal x y = true := by rfl) : EvD K (tOp rEq ta tb) δ (.b (decide (x = y))) := ev_op ha hb fun H Q q => ⟨hs, q⟩
theorem ev_ne (ha : EvD K ta δ (.v x)) (hb : EvD K tb δ (.v y)) (hs : scal x y = true := by rfl) : EvD K (tOp rNe ta tb) δ (.b (!decide (x = y))) := ev_op ha hb fun H Q q => ⟨hs, q⟩
theorem ev_is (h : EvD K te δ d) (e : d = r) : EvD K te δ r := by
  rw [← e]
  exact h
theorem et_is (h : EvT K tt δ b) (e : b = c) : EvT K tt δ c := by
  rw [← e]
  exact h
theorem repL_atI {H : Hp} {vs : List V} {i : Int} (r : RepL K H vs ds) (h : atI ds i = some d) : ∃ v, atI vs i = some v ∧ Rep K H v d := by
  unfold atI at h ⊢
  rw [r.length]
  cases e : ixN ds.length i with
  | none =>
    rw [e] at h
    cases h
  | some j =>
    rw [e] at h
    exact r.get (i := j) h
theorem ev_ix {i : Int} (ha : EvD K ta δ (.t ds)) (hb : EvD K tb δ (.i i)) (hi : atI ds i = some d) : EvD K (tOp (rIxT K) ta tb) δ d := fun σ H Q F q =>
  ha σ H _ F fun v H1 e1 r1 => hb σ H1 _ (F.same e1) fun u H2 e2 r2 => by
    cases r2.val
    obtain ⟨a, vs, rfl, hs, rl⟩ := r1.tup
    obtain ⟨z, hz, rz⟩ := repL_atI rl hi
    exact ⟨a, vs, i, z, rfl, rfl, (Stay.same e2).seqT hs, hz, q z H2 (e1.trans e2) (rz.same e2)⟩
/-- t[3], the index written -/
theorem ev_ixn {n : Nat} (ha : EvD K ta δ (.t ds)) (hi : ds[n]? = some d) : EvD K (tOp (rIxT K) ta (tC (.int n))) δ d := ev_ix ha ev_c (atI_nat hi)
theorem ev_cat {xs ys : List D} (ha : EvD K ta δ (.t xs)) (hb : EvD K tb δ (.t ys)) (hl : Nat.ble (xs.length + ys.length) 100000 = true := by rfl) : EvD K (tOp (rCatA K) ta tb) δ (.t (xs ++ ys)) := fun σ H Q F q =>
  ha σ H _ F fun v H1 e1 r1 => hb σ H1 _ (F.same e1) fun u H2 e2 r2 => by
    obtain ⟨a, vs, rfl, hs, rl⟩ := r1.tup
    obtain ⟨c, us, rfl, hs2, rl2⟩ := r2.tup
    have hs' : SqT K H2 a vs := (Stay.same e2).seqT hs
    have rl' := rl.same e2
    refine ⟨a, c, vs, us, rfl, rfl, hs', hs2, ?_, fun hv => ?_, fun hv hu => ?_, fun hv hu p hp => ?_⟩
    · rw [rl.length, rl2.length]
      exact Nat.le_trans (Nat.le_of_ble_eq_true hl) (by decide)
    · subst hv
      cases rl'
      exact q _ H2 (e1.trans e2) (.t hs2 rl2)
    · subst hu
      cases rl2
      rw [List.append_nil] at q
      exact q _ H2 (e1.trans e2) (.t hs' rl')
    · exact q _ _ ((e1.trans e2).trans (Same.new hp)) (.of upd_same ((rl'.append rl2).same (Same.new hp)))
/-! tests -/
theorem et_test (h : EvD K te δ (.b b)) : EvT K (tTest te) δ b := fun σ H Q F q => h σ H _ F fun v H1 e1 r1 => by
  cases r1.val
  exact ⟨b, rfl, q H1 e1⟩
theorem et_B (h : EvD K te δ (.b b)) : EvT K (tB te) δ b := fun σ H Q F q => h σ H _ F fun v H1 e1 r1 => by
  cases r1.val
  exact ⟨b, rfl, q H1 e1⟩
theorem et_not (h : EvT K tt δ b) : EvT K (tNot tt) δ (!b) := fun σ H Q F q => h σ H _ F fun H1 e1 => q H1 e1
theorem et_and (h : EvT K tt δ true) (h2 : EvT K tu δ c) : EvT K (tAnd tt tu) δ c := fun σ H Q F q => h σ H _ F fun H1 e1 => iteT (h2 σ H1 _ (F.same e1) fun H2 e2 => q H2 (e1.trans e2))
theorem et_andF (h : EvT K tt δ false) : EvT K (tAnd tt tu) δ false := fun σ H Q F q => h σ H _ F fun H1 e1 => iteF (q H1 e1)
theorem et_or (h : EvT K tt δ false) (h2 : EvT K tu δ c) : EvT K (tOr tt tu) δ c := fun σ H Q F q => h σ H _ F fun H1 e1 => iteF (h2 σ H1 _ (F.same e1) fun H2 e2 => q H2 (e1.trans e2))
theorem et_orT (h : EvT K tt δ true) : EvT K (tOr tt tu) δ true := fun σ H Q F q => h σ H _ F fun H1 e1 => iteT (q H1 e1)
theorem ev_and (ha : EvD K ta δ (.b true)) (hb : EvD K tb δ d) : EvD K (tAndV ta tb) δ d := fun σ H Q F q => ha σ H _ F fun v H1 e1 r1 => by
  cases r1.val
  exact ⟨true, rfl, iteT (hb σ H1 _ (F.same e1) fun v H2 e2 r2 => q v H2 (e1.trans e2) r2)⟩
theorem ev_andF (ha : EvD K ta δ (.b false)) : EvD K (tAndV ta tb) δ (.b false) := fun σ H Q F q => ha σ H _ F fun v H1 e1 r1 => by
  cases r1.val
  exact ⟨false, rfl, iteF (q _ H1 e1 (.v _))⟩
theorem ev_or (ha : EvD K ta δ (.b false)) (hb : EvD K tb δ d) : EvD K (tOrV ta tb) δ d := fun σ H Q F q => ha σ H _ F fun v H1 e1 r1 => by
  cases r1.val
  exact ⟨false, rfl, iteF (hb σ H1 _ (F.same e1) fun v H2 e2 r2 => q v H2 (e1.trans e2) r2)⟩
theorem ev_orT (ha : EvD K ta δ (.b true)) : EvD K (tOrV ta tb) δ (.b true) := fun σ H Q F q => ha σ H _ F fun v H1 e1 r1 => by
  cases r1.val
  exact ⟨true, rfl, iteT (q _ H1 e1 (.v _))⟩
theorem ev_not (ha : EvD K ta δ (.b b)) : EvD K (tNotV ta) δ (.b (!b)) := fun σ H Q F q => ha σ H _ F fun v H1 e1 r1 => by
  cases r1.val
  exact ⟨b, rfl, q _ H1 e1 (.v _)⟩
/-! statements -/
theorem rs_ret (h : EvD K te δ r) : RunS K (tRet te) δ r := fun σ H E F q => h σ H _ F q
theorem rs_set {u : TS} (h : EvD K te δ d) (hu : RunS K u (δ.set i (some d)) r) : RunS K (tSeq (tAsg te (gName i)) u) δ r := fun σ H E F q =>
  h σ H _ F fun v H1 e1 r1 => hu _ H1 E ((F.same e1).set r1 i) fun v H2 e2 r2 => q v H2 (e1.trans e2) r2
theorem rs_ifT {t u : TS} (hc : EvT K tt δ true) (h : RunS K t δ r) : RunS K (tIfS tt t u) δ r := fun σ H E F q =>
  hc σ H _ F fun H1 e1 => iteT (h σ H1 E (F.same e1) fun v H2 e2 r2 => q v H2 (e1.trans e2) r2)
theorem rs_ifF {t u : TS} (hc : EvT K tt δ false) (h : RunS K u δ r) : RunS K (tIfS tt t u) δ r := fun σ H E F q =>
  hc σ H _ F fun H1 e1 => iteF (h σ H1 E (F.same e1) fun v H2 e2 r2 => q v H2 (e1.trans e2) r2)
/-- the first statement hands back -/
theorem rs_now {t u : TS} (h : RunS K t δ r) : RunS K (tSeq t u) δ r := fun σ H E F q => h σ H _ F q
/-- the first statement goes on -/
theorem rs_then {t u : TS} (h : RunN K t δ δ') (hu : RunS K u δ' r) : RunS K (tSeq t u) δ r := fun σ H E F q =>
  h σ H _ F fun σ2 H1 e1 F1 => hu σ2 H1 E F1 fun v H2 e2 r2 => q v H2 (e1.trans e2) r2
theorem rs_skip {t u : TS} (hc : EvT K tt δ false) (hu : RunS K u δ r) : RunS K (tSeq (tIfS tt t tNext) u) δ r := fun σ H E F q =>
  hc σ H _ F fun H1 e1 => iteF (hu σ H1 E (F.same e1) fun v H2 e2 r2 => q v H2 (e1.trans e2) r2)
theorem rs_is {t : TS} {r' : D} (h : RunS K t δ r) (e : r = r') : RunS K t δ r' := by
  rw [← e]
  exact h
theorem rn_drop {te : TE} (h : EvD K te δ d) : RunN K (tDrop te) δ δ := fun σ H E F q => h σ H _ F fun v H1 e1 r1 => q σ H1 e1 (F.same e1)
theorem rn_skip {t : TS} (hc : EvT K tt δ false) : RunN K (tIfS tt t tNext) δ δ := fun σ H E F q => hc σ H _ F fun H1 e1 => iteF (q σ H1 e1 (F.same e1))
theorem rn_set (h : EvD K te δ d) : RunN K (tAsg te (gName i)) δ (δ.set i (some d)) := fun σ H E F q => h σ H _ F fun v H1 e1 r1 => q _ H1 e1 ((F.same e1).set r1 i)
theorem rn_seq {t u : TS} {δ2 : DS} (h : RunN K t δ δ') (hu : RunN K u δ' δ2) : RunN K (tSeq t u) δ δ2 := fun σ H E F q =>
  h σ H _ F fun σ2 H1 e1 F1 => hu σ2 H1 E F1 fun σ3 H2 e2 F2 => q σ3 H2 (e1.trans e2) F2
end

/-! ### promises over data -/
/-- from data to data, the heap only grown -/
def PSp (K : PySem.W.Frag) (A : List D → D → Prop) : Sp := fun vs H Q _ => ∃ ds r, RepL K H vs ds ∧ A ds r ∧ ∀ v H', Same H H' → Rep K H' v r → Q v H'
section
variable {K : PySem.W.Frag} {δ : DS} {A : List D → D → Prop} {ds dd : List D} {r : D} {E : XK} {t tk : TA}
theorem ev_call (h : EvA K t δ ds) (hA : A ds r) : EvD K (tCall (PSp K A) [] E t) δ r := fun σ H Q F q =>
  h σ H _ F fun vs H1 e1 r1 => ⟨ds, r, by rw [List.append_nil]; exact r1, hA, fun v H2 e2 r2 => q v H2 (e1.trans e2) r2⟩
theorem ev_callD {dvs : List V} (h : EvA K t δ ds) (hA : A (ds ++ dvs.map D.v) r) : EvD K (tCall (PSp K A) dvs E t) δ r := fun σ H Q F q =>
  h σ H _ F fun vs H1 e1 r1 => ⟨_, r, r1.append (RepL.vals dvs), hA, fun v H2 e2 r2 => q v H2 (e1.trans e2) r2⟩
theorem ev_callL {i : Nat} {f : Addr} (hs : δ[i]? = some (some (.v (.ref f)))) (h : EvA K t δ ds) (hA : A ds r) : EvD K (tCallL i f (PSp K A) [] E t) δ r := fun σ H Q F q => by
  obtain ⟨v, h1, h2⟩ := F.get hs
  cases h2.val
  exact ⟨h1, h σ H _ F fun vs H1 e1 r1 => ⟨ds, r, by rw [List.append_nil]; exact r1, hA, fun v H2 e2 r2 => q v H2 (e1.trans e2) r2⟩⟩
/-- the promise's body -/
theorem psp_of {N : List Str} {ts : TS} (h : ∀ ds r, A ds r → RunS K ts (startD N.length ds) r) {vs : List V} {H : Hp} {Q : VK} {E : XK} (hs : PSp K A vs H Q E) : ts { nx := fun _ H' => Q .non H', rt := Q } (L2.start N vs) H := by
  obtain ⟨ds, r, r1, a, k⟩ := hs
  exact h ds r a _ H _ (FrD.start r1) fun v H2 e2 r2 => k v H2 e2 r2
theorem psp_len {n : Nat} (h : ∀ ds r, A ds r → ds.length = n) {vs : List V} {H : Hp} {Q : VK} {E : XK} (hs : PSp K A vs H Q E) : vs.length = n := by
  obtain ⟨ds, r, r1, a, k⟩ := hs
  rw [r1.length]
  exact h ds r a
end
end Ww

set_option Elab.async false
set_option linter.all false
set_option maxRecDepth 100000
set_option maxHeartbeats 4000000
/-! W2: enumerate of a tuple and of a text, as what a for walks. -/
namespace Ww
open PySem PySem.Spec PyProof.Rows L2

/-! ### enumerate(v) begins -/
theorem meets_enumerate_newB1 {v : Value} {o : Obj} {H : Heap → Prop} (B : Begins v o H) :
    Meets (Builtin.«enumerate.__new__» ⟨[.type "enumerate", v], []⟩) (fun _ R s => H s.heap ∧
      R (.ok (.ret (.ref (s.heap.push o).objs.size))) { s with heap := (s.heap.push o).push { cls := .type "enumerate", data := .fields #[.none, .bool false, .ref s.heap.objs.size, rawInt 0, .none, .none] } }) :=
  .of_wp fun prog w A R s h => by
    obtain ⟨hp, g, d, tk, os⟩ := s; obtain ⟨h1, h⟩ := h
    have hsub := sub_enumerate
    have q1 : ∀ {A' : Around} {E : Value → Shared → Prop} {Q : Value → Shared → Prop}, Q (.ref hp.objs.size) ⟨hp.push o, g, d, tk, os⟩ → wpAny (model prog w) A' (pyIter v) Q E ⟨hp, g, d, tk, os⟩ :=
      fun q => B.iter prog w _ _ ⟨hp, g, d, tk, os⟩ _ h1 q
    wp_walk using q1
    refine wpAny_stack_any fun st => wpAny_pure ?_
    split
    · rename_i c _ _ _ _ _
      cases (c == Value.type "enumerate")
      · wp_walk using q1
        exact ⟨_, rfl, h⟩
      · wp_walk using q1
        exact ⟨_, rfl, h⟩
    · wp_walk using q1
      exact ⟨_, rfl, h⟩
theorem enum_begins1 {prog : Program} {w : World} {A : Around} {E : Value → Shared → Prop} {s : Shared} {v : Value} {o : Obj} {H : Heap → Prop} {Q : Value → Shared → Prop} (B : Begins v o H) (h1 : H s.heap)
    (h : ∀ h', IsEnum h' (s.heap.objs.size + 1) s.heap.objs.size 0 .none → h'.get? s.heap.objs.size = some o → h'.objs.size = s.heap.objs.size + 2 →
      (∀ b o, s.heap.get? b = some o → h'.get? b = some o) → Q (.ref (s.heap.objs.size + 1)) { s with heap := h' }) :
    wpAny (model prog w) A (call (.type "enumerate") [v]) Q E s := by
  refine callType_new F.called_enumerate (by decide) (F.typeCall_enumerate_1 _) (F.newCall_enumerate_1 _) (fun obj => F.args_object_init_2 obj _) F.entry_enumerate_new
    (meets_enumerate_newB1 B) ⟨h1, ?_⟩
  have hz : (s.heap.push o).objs.size = s.heap.objs.size + 1 := Heap.size_push ..
  show _ ∧ _
  rw [hz]
  have he : IsEnum ((s.heap.push o).push { cls := .type "enumerate", data := .fields #[.none, .bool false, .ref s.heap.objs.size, rawInt 0, .none, .none] }) (s.heap.objs.size + 1) s.heap.objs.size 0 .none := by
    have := Heap.get?_push_size (s.heap.push o) (o := { cls := .type "enumerate", data := .fields #[.none, .bool false, .ref s.heap.objs.size, rawInt 0, .none, .none] }) rfl
    rw [hz] at this; exact this
  refine ⟨⟨_, he, rfl⟩, h _ he (Heap.get?_push_of_some _ (Heap.get?_push_size _ B.free)) (by rw [Heap.size_push, hz]) fun b o x => Heap.get?_push_of_some _ (Heap.get?_push_of_some _ x)⟩

/-! ### enumerate(tuple) -/
def Itet (K : PySem.W.Frag) (a : Addr) : It :=
  ⟨fun i H => ∃ (xs : List V) (x : V), SqT K H a xs ∧ xs[i]? = some x, fun i H v H' => ∃ T x, v = .ref T ∧ H T = none ∧ H' = upd H T (.tup [.int (i : Nat), x]) ∧ ∀ xs, SqT K H a xs → xs[i]? = some x, fun i H => ∃ xs : List V, SqT K H a xs ∧ xs.length ≤ i⟩
theorem turn_enumT {P : Program} {w : World} {K : PySem.W.Frag} {elts : List Expr} {kk : Nat} {tpos : Pos} (a e it : Addr) :
    Turn P w K (.Tuple elts kk tpos) (Itet K a) [e, it] e (fun i h => (∃ old, IsEnum h e it ((i : Nat) : Int) old) ∧ h.IsTupleIter it a i ∧ e ≠ it ∧ a ≠ it ∧ a ≠ e) where
  mem := by simp
  obj := fun i h st b hb => by
    obtain ⟨⟨old, he⟩, ⟨o, ho, hc, hd⟩, _⟩ := st
    have e' : b = e ∨ b = it := by simpa using hb
    rcases e' with z | z
    · rw [z]; exact ⟨_, he, fun v q => nomatch q⟩
    · rw [z]; exact ⟨o, ho, fun v q => by rw [hd] at q; cases q⟩
  keep := fun i h h' st k => let ⟨⟨old, he⟩, hi, hne⟩ := st; ⟨⟨old, k e (by simp) _ he⟩, hi.at fun o q => k it (by simp) o q, hne⟩
  item := by
    intro X hP hw hK hc i pins s σ H E I hf st hg
    subst hP hw hK
    obtain ⟨⟨old, he⟩, hit, hne, hai, hae⟩ := st
    obtain ⟨xs, x, hq, hx⟩ := hg
    obtain ⟨its, rv, p, hz⟩ := I.tuple hq
    have hel : e < s.heap.objs.size := Heap.lt_size he
    have hil : it < s.heap.objs.size := by obtain ⟨_, q, _⟩ := hit; exact Heap.lt_size q
    have hh : X.A.in1.handled = none := I.ok.hd hc
    have hlt : i < its.toArray.size := by
      have q := (List.getElem?_eq_some_iff.mp hx).1
      rw [List.size_toArray, ← rv.length]
      exact q
    refine wpAny_pyNext_enum_itemD (Draws.tuple hh it a hai its.toArray) he ⟨hit, p⟩ hlt hne (by simp [hne, Ne.symm hae]) fun u h' tk hPx ho hst' hT hsz hk => ?_
    have hu : its[i]? = some u := by simpa using hPx
    have ru : RelV x u := by
      obtain ⟨u', hu', r'⟩ := rv.get hx
      rw [hu] at hu'
      cases hu'
      exact r'
    refine ⟨_, rfl, wpAny_letOwnedTupleGo_enum (s := { s with heap := h', toks := tk + 1 }) ho fun h'' he' sb => ?_⟩
    have hT2 : h''.get? s.heap.objs.size = some { cls := .type "tuple", data := .seq #[.int i tk, u] } := (sb.2 _ (Nat.ne_of_gt hel)).trans hT
    have new : ObjOk X.prog X.w (upd H s.heap.objs.size (.tup [.int (i : Nat), x])) h'' s.heap.objs.size (.tup [.int (i : Nat), x]) :=
      ⟨by show 2 ≤ sizeLine; decide, [.int i tk, u], .cons ⟨_, rfl⟩ (.cons ru .nil), ⟨_, hT2, rfl, _, rfl⟩⟩
    have I1 : Inv X pins σ (upd H s.heap.objs.size (.tup [.int (i : Nat), x])) { s with heap := h'', toks := tk + 1 } :=
      I.turnedNew (ch := [e, it]) (fun b ob hb q => (sb.2 b (fun z => hb (by simp [z]))).trans (hk b ob (fun z => hb (by simp [z])) (fun z => hb (by simp [z])) q)) hf (Nat.le_refl _) new
    refine ⟨.ref s.heap.objs.size, _, I1, rfl, ⟨_, x, rfl, I.hok.fresh (Nat.le_refl _), rfl, fun ys hy => by rw [I.tuple_inj hy hq]; exact hx⟩, ⟨⟨u, ?_⟩, hst'.1.at fun o q => (sb.2 it (Ne.symm hne)).trans q, hne, hai, hae⟩, fun b hb => ?_⟩
    · have e1 : ((i + 1 : Nat) : Int) = (i : Int) + 1 := by omega
      rw [e1]; exact he'
    · have hb' : b < s.heap.objs.size := by
        have e' : b = e ∨ b = it := by simpa using hb
        rcases e' with z | z
        · rw [z]; exact hel
        · rw [z]; exact hil
      rw [upd_ne (Nat.ne_of_lt hb')]
      exact (hf b hb).1
  done := by
    intro X hP hw hK hc i pins s σ H E I hf st hg
    subst hP hw hK
    obtain ⟨⟨old, he⟩, hit, hne, hai, hae⟩ := st
    obtain ⟨xs, hq, hx⟩ := hg
    obtain ⟨its, rv, p, hz⟩ := I.tuple hq
    obtain ⟨f0, f1, f2, f3, f4, f5⟩ := hf it (by simp)
    have hl := rv.length
    have hh : X.A.in1.handled = none := I.ok.hd hc
    unfold pyNext
    have hT : s.TypeIs (.ref e) "enumerate" := ⟨_, he, rfl⟩
    refine wpAny_bind (wpAny_attempt (wpAny_callSpecial?_slot (name := Str.ofString "__next__") hT F.slot_enumerate_next
      (wpAny_call_entry F.slot_enumerate_next hT F.entry_enumerate_next ?_ (F.args_enumerate_next_1 _))))
    show wpAny _ _ (field (.ref e) 2 >>= _) _ _ _
    refine wpAny_bind (wpAny_field he rfl (x := .ref it) rfl ?_)
    refine wpAny_bind (wpAny_nextOf_tuple_end hh hit p (by simp; omega) fun h' x he' hx' => ?_)
    obtain ⟨o, ho, hc'⟩ := hx'
    refine wpAny_bind (wpAny_isInstance (T := "StopIteration") (b := true) ⟨o, ho, hc'⟩ isSubtype_stop ?_)
    exact wpAny_pure ⟨rfl, I.turned (t' := s.toks) (fun b o hb q => he' b o hb q) f0 f1 f3 f4 f5⟩
  self := fun A i s Q E st h => let ⟨⟨_, he⟩, _⟩ := st; wpAny_pyIter_enum he h
def iEnumT (K : PySem.W.Frag) (ta : TA) : TI := fun σ H R => ta σ H fun vs H1 => ∃ a xs, vs = [.ref a] ∧ SqT K H1 a xs ∧ R (Itet K a) H1
theorem pi_enumT {X : Cx} {e : Expr} {ta : TA} {p pos tpos : Pos} {elts : List Expr} {kk : Nat} (hg : Gl X "enumerate") (hm : X.mg "enumerate" = none) (ha : PA X [e] ta) (hs : starEach [e] X.env = [(false, eval e X.env)] := by rfl) :
    PI X (.Tuple elts kk tpos) (.Call (.Name "enumerate" p) [e] [] pos) (iEnumT X.K ta) := by
  refine ⟨fun pins s σ H R I h => ?_⟩
  refine Call_ (ld_blt I hg hm boot_enumerate (PyProof.Rows.callWith_type1 (thn (ha.run pos pins s σ H _ I h) fun us s1 ⟨vs, H1, I1, r1, q1⟩ => ?_) hs rfl))
  obtain ⟨a, xs, ex, hq, q⟩ := q1
  subst ex
  cases r1 with
  | cons r rr =>
    cases rr
    cases r
    obtain ⟨its, rv, p', hz⟩ := I1.tuple hq
    refine enum_begins1 (begins_tuple a its.toArray) p' fun h' he hit hsz hk => wpAny_pyIter_enum he ?_
    have I2 : Inv X pins σ H1 { s1 with heap := h' } := I1.kept (t' := s1.toks) hk
    have hal : a < s1.heap.objs.size := p'.lt
    refine ⟨s1.heap.objs.size + 1, [s1.heap.objs.size + 1, s1.heap.objs.size], _, _, H1, rfl, I2, turn_enumT a (s1.heap.objs.size + 1) s1.heap.objs.size, ⟨⟨.none, he⟩, ⟨_, hit, rfl, rfl⟩, Nat.succ_ne_self _, Nat.ne_of_lt hal, Nat.ne_of_lt (Nat.lt_succ_of_lt hal)⟩, fun b hb => ?_, q⟩
    have e' : b = s1.heap.objs.size + 1 ∨ b = s1.heap.objs.size := by simpa using hb
    have hle : s1.heap.objs.size ≤ b := by
      rcases e' with z | z
      · rw [z]; exact Nat.le_add_right _ _
      · rw [z]; exact Nat.le_refl _
    exact I1.fpOk hle (I1.hok.fresh hle)

/-! ### enumerate(text) -/
def Ites (z : Str) : It :=
  ⟨fun i _ => i < z.cps.size, fun i H v H' => ∃ T c, v = .ref T ∧ H T = none ∧ H' = upd H T (.tup [.int (i : Nat), .str ⟨#[c]⟩]) ∧ z.cps[i]? = some c, fun i _ => z.cps.size ≤ i⟩
theorem turn_enumS {P : Program} {w : World} {K : PySem.W.Frag} {elts : List Expr} {kk : Nat} {tpos : Pos} (z : Str) (t : Tok) (e it : Addr) :
    Turn P w K (.Tuple elts kk tpos) (Ites z) [e, it] e (fun i h => (∃ old, IsEnum h e it ((i : Nat) : Int) old) ∧ h.IsStrIter it (strIterType z) z t i ∧ e ≠ it ∧ i ≤ z.cps.size) where
  mem := by simp
  obj := fun i h st b hb => by
    obtain ⟨⟨old, he⟩, ⟨o, ho, hc, hd⟩, _⟩ := st
    have e' : b = e ∨ b = it := by simpa using hb
    rcases e' with z | z
    · rw [z]; exact ⟨_, he, fun v q => nomatch q⟩
    · rw [z]; exact ⟨o, ho, fun v q => by rw [hd] at q; cases q⟩
  keep := fun i h h' st k => by
    obtain ⟨⟨old, he⟩, ⟨o, ho, hc, hd⟩, hne⟩ := st
    exact ⟨⟨old, k e (by simp) _ he⟩, ⟨o, k it (by simp) o ho, hc, hd⟩, hne⟩
  item := by
    intro X hP hw hK hc i pins s σ H E I hf st hg
    subst hP hw hK
    obtain ⟨⟨old, he⟩, hit, hne, _⟩ := st
    have hlt : i < z.cps.size := hg
    have hel : e < s.heap.objs.size := Heap.lt_size he
    have hil : it < s.heap.objs.size := by obtain ⟨_, q, _⟩ := hit; exact Heap.lt_size q
    have hh : X.A.in1.handled = none := I.ok.hd hc
    refine wpAny_pyNext_enum_itemD (Draws.text hh it z t) he hit hlt hne (by simp [hne]) fun u h' tk hPx ho hst' hT hsz hk => ?_
    obtain ⟨c, tc, hcp, rfl⟩ := hPx
    refine ⟨_, rfl, wpAny_letOwnedTupleGo_enum (s := { s with heap := h', toks := tk + 1 }) ho fun h'' he' sb => ?_⟩
    have hT2 : h''.get? s.heap.objs.size = some { cls := .type "tuple", data := .seq #[.int i tk, .str ⟨#[c]⟩ tc] } := (sb.2 _ (Nat.ne_of_gt hel)).trans hT
    have new : ObjOk X.prog X.w (upd H s.heap.objs.size (.tup [.int (i : Nat), .str ⟨#[c]⟩])) h'' s.heap.objs.size (.tup [.int (i : Nat), .str ⟨#[c]⟩]) :=
      ⟨by show 2 ≤ sizeLine; decide, [.int i tk, .str ⟨#[c]⟩ tc], .cons ⟨_, rfl⟩ (.cons ⟨_, rfl⟩ .nil), ⟨_, hT2, rfl, _, rfl⟩⟩
    have I1 : Inv X pins σ (upd H s.heap.objs.size (.tup [.int (i : Nat), .str ⟨#[c]⟩])) { s with heap := h'', toks := tk + 1 } :=
      I.turnedNew (ch := [e, it]) (fun b ob hb q => (sb.2 b (fun z => hb (by simp [z]))).trans (hk b ob (fun z => hb (by simp [z])) (fun z => hb (by simp [z])) q)) hf (Nat.le_refl _) new
    refine ⟨.ref s.heap.objs.size, _, I1, rfl, ⟨_, c, rfl, I.hok.fresh (Nat.le_refl _), rfl, hcp⟩, ⟨⟨.str ⟨#[c]⟩ tc, ?_⟩, ?_, hne, hlt⟩, fun b hb => ?_⟩
    · have e1 : ((i + 1 : Nat) : Int) = (i : Int) + 1 := by omega
      rw [e1]; exact he'
    · obtain ⟨o, ho', hc', hd'⟩ := hst'
      exact ⟨o, (sb.2 it (Ne.symm hne)).trans ho', hc', hd'⟩
    · have hb' : b < s.heap.objs.size := by
        have e' : b = e ∨ b = it := by simpa using hb
        rcases e' with z | z
        · rw [z]; exact hel
        · rw [z]; exact hil
      rw [upd_ne (Nat.ne_of_lt hb')]
      exact (hf b hb).1
  done := by
    intro X hP hw hK hc i pins s σ H E I hf st hg
    subst hP hw hK
    obtain ⟨⟨old, he⟩, hit, hne, hle⟩ := st
    have hge : z.cps.size ≤ i := hg
    have ei : i = z.cps.size := Nat.le_antisymm hle hge
    subst ei
    obtain ⟨f0, f1, f2, f3, f4, f5⟩ := hf it (by simp)
    have hh : X.A.in1.handled = none := I.ok.hd hc
    exact wpAny_pyNext_enum_endD (Draws.text (prog := X.prog) (w := X.w) hh it z t) he hit fun h' eb => ⟨rfl, I.turned (t' := s.toks) (fun b o hb q => eb b o hb q) f0 f1 f3 f4 f5⟩
  self := fun A i s Q E st h => let ⟨⟨_, he⟩, _⟩ := st; wpAny_pyIter_enum he h
def iEnumS (ta : TA) : TI := fun σ H R => ta σ H fun vs H1 => ∃ z, vs = [.str z] ∧ R (Ites z) H1
theorem pi_enumS {X : Cx} {e : Expr} {ta : TA} {p pos tpos : Pos} {elts : List Expr} {kk : Nat} (hg : Gl X "enumerate") (hm : X.mg "enumerate" = none) (ha : PA X [e] ta) (hs : starEach [e] X.env = [(false, eval e X.env)] := by rfl) :
    PI X (.Tuple elts kk tpos) (.Call (.Name "enumerate" p) [e] [] pos) (iEnumS ta) := by
  refine ⟨fun pins s σ H R I h => ?_⟩
  refine Call_ (ld_blt I hg hm boot_enumerate (PyProof.Rows.callWith_type1 (thn (ha.run pos pins s σ H _ I h) fun us s1 ⟨vs, H1, I1, r1, q1⟩ => ?_) hs rfl))
  obtain ⟨z, ex, q⟩ := q1
  subst ex
  cases r1 with
  | cons r rr =>
    cases rr
    obtain ⟨t, rfl⟩ := r
    refine call_enumerate_str fun h' he hit hsz hk => wpAny_pyIter_enum he ?_
    have I2 : Inv X pins σ H1 { s1 with heap := h' } := I1.kept (t' := s1.toks) hk
    refine ⟨s1.heap.objs.size + 1, [s1.heap.objs.size + 1, s1.heap.objs.size], _, _, H1, rfl, I2, turn_enumS z t (s1.heap.objs.size + 1) s1.heap.objs.size, ⟨⟨.none, he⟩, hit, Nat.succ_ne_self _, Nat.zero_le _⟩, fun b hb => ?_, q⟩
    have e' : b = s1.heap.objs.size + 1 ∨ b = s1.heap.objs.size := by simpa using hb
    have hle : s1.heap.objs.size ≤ b := by
      rcases e' with z | z
      · rw [z]; exact Nat.le_add_right _ _
      · rw [z]; exact Nat.le_refl _
    exact I1.fpOk hle (I1.hok.fresh hle)

/-! ### the loops over them -/
theorem for_enumT {K : PySem.W.Frag} {a : Addr} {xs : List V} {g : TG} {tb : L2.TS} {D : Ends} {σ : L2.St} {H : Hp} (Pv : Nat → L2.St → Hp → Prop) (h0 : Pv 0 σ H) (hl : ∀ i σ H, i ≤ xs.length → Pv i σ H → SqT K H a xs)
    (hs : ∀ i x T σ H, xs[i]? = some x → Pv i σ H → H T = none → g (.ref T) σ (upd H T (.tup [.int (i : Nat), x])) fun σ2 H2 => tb { D with nx := Pv (i + 1), ct := Pv (i + 1), bk := D.nx } σ2 H2) (hd : ∀ σ H, Pv xs.length σ H → D.nx σ H) :
    ∃ W : Nat → Nat → L2.St → Hp → Prop, (∃ m, W 0 m σ H) ∧ ∀ i m σ H, W i m σ H →
      ((Itet K a).stop i H ∧ D.nx σ H) ∨ ((Itet K a).go i H ∧ ∃ N : L2.St → Hp → Prop, (∀ σ' H', N σ' H' → ∃ m', m' < m ∧ W (i + 1) m' σ' H') ∧ ∀ x H', (Itet K a).yld i H x H' → g x σ H' fun σ2 H2 => tb { D with nx := N, ct := N, bk := D.nx } σ2 H2) := by
  refine ⟨fun i m σ H => m = xs.length - i ∧ i ≤ xs.length ∧ Pv i σ H, ⟨xs.length, by simp, Nat.zero_le _, h0⟩, ?_⟩
  rintro i m σ H ⟨rfl, hi, p⟩
  have q := hl i σ H hi p
  by_cases hlt : i < xs.length
  · refine .inr ⟨⟨xs, xs[i], q, by simp [hlt]⟩, Pv (i + 1), fun σ' H' p' => ⟨xs.length - (i + 1), by omega, rfl, hlt, p'⟩, fun x H' y => ?_⟩
    obtain ⟨T, x', rfl, hT, rfl, y⟩ := y
    exact hs i x' T σ _ (y xs q) p hT
  · have e : i = xs.length := by omega
    subst e
    exact .inl ⟨⟨xs, q, Nat.le_refl _⟩, hd σ H p⟩
theorem for_enumS {z : Str} {g : TG} {tb : L2.TS} {D : Ends} {σ : L2.St} {H : Hp} (Pv : Nat → L2.St → Hp → Prop) (h0 : Pv 0 σ H)
    (hs : ∀ i c T σ H, z.cps[i]? = some c → Pv i σ H → H T = none → g (.ref T) σ (upd H T (.tup [.int (i : Nat), .str ⟨#[c]⟩])) fun σ2 H2 => tb { D with nx := Pv (i + 1), ct := Pv (i + 1), bk := D.nx } σ2 H2) (hd : ∀ σ H, Pv z.cps.size σ H → D.nx σ H) :
    ∃ W : Nat → Nat → L2.St → Hp → Prop, (∃ m, W 0 m σ H) ∧ ∀ i m σ H, W i m σ H →
      ((Ites z).stop i H ∧ D.nx σ H) ∨ ((Ites z).go i H ∧ ∃ N : L2.St → Hp → Prop, (∀ σ' H', N σ' H' → ∃ m', m' < m ∧ W (i + 1) m' σ' H') ∧ ∀ x H', (Ites z).yld i H x H' → g x σ H' fun σ2 H2 => tb { D with nx := N, ct := N, bk := D.nx } σ2 H2) := by
  refine ⟨fun i m σ H => m = z.cps.size - i ∧ i ≤ z.cps.size ∧ Pv i σ H, ⟨z.cps.size, by simp, Nat.zero_le _, h0⟩, ?_⟩
  rintro i m σ H ⟨rfl, hi, p⟩
  by_cases hlt : i < z.cps.size
  · refine .inr ⟨hlt, Pv (i + 1), fun σ' H' p' => ⟨z.cps.size - (i + 1), by omega, rfl, hlt, p'⟩, fun x H' y => ?_⟩
    obtain ⟨T, c, rfl, hT, rfl, y⟩ := y
    exact hs i c T σ _ y p hT
  · have e : i = z.cps.size := by omega
    subst e
    exact .inl ⟨Nat.le_refl _, hd σ H p⟩
end Ww

set_option Elab.async false
set_option linter.all false
set_option maxRecDepth 100000
set_option maxHeartbeats 4000000
/-! W3: rules that the layer lacks: a tuple from behind, a call by keywords over defaults, a call without arguments of what a written table holds, get of a written table; and their evaluation over data. -/
namespace HT2
open PySem PySem.Spec PyProof.Rows HT L2
section
variable {prog : Program} {w : World} {A : Around} {E : Value → Shared → Prop} {s : Shared}
theorem rev_pick (xs : Array Value) : ((List.range xs.size).filterMap fun (m : Nat) => xs[(((xs.size : Int) - 1) + (m : Int) * (-1)).toNat]?).toArray = xs.toList.reverse.toArray := by
  have e : (List.range xs.size).filterMap (fun (m : Nat) => xs[(((xs.size : Int) - 1) + (m : Int) * (-1)).toNat]?) = ((List.range xs.size).map fun k => xs.size - 1 - k).filterMap (xs[·]?) := by
    rw [List.filterMap_map]
    congr 1
    funext m
    show xs[(((xs.size : Int) - 1) + (m : Int) * (-1)).toNat]? = xs[xs.size - 1 - m]?
    have q : (((xs.size : Int) - 1) + (m : Int) * (-1)).toNat = xs.size - 1 - m := by omega
    rw [q]
  rw [e, PySem.W.krv_range, List.filterMap_reverse, PySem.W.krv_all]
theorem sliceApplied_rev {sl : Addr} {vk : Value} {n : Nat} {Q : Int × Int × Nat → Shared → Prop} (hs : s.heap.IsSliceOf sl .none .none vk) (pk : IsPart vk (some (-1)))
    (h : Q ((n : Int) - 1, -1, n) s) : wpAny (model prog w) A (Builtin.Slice.sliceApplied (.ref sl) (pure (n : Int))) Q E s := by
  obtain ⟨os, hos, hcs, hds⟩ := id hs
  unfold Builtin.Slice.sliceApplied Builtin.Slice.sliceFields
  refine wpAny_bind (wpAny_bind (wpAny_field hos hds (x := .none) rfl (wpAny_bind (wpAny_field hos hds (x := .none) rfl (wpAny_bind (wpAny_field hos hds (x := vk) rfl (wpAny_pure ?_)))))))
  refine wpAny_bind (slicePart_ pk ?_)
  show wpAny _ _ (if ((-1 : Int) == 0) = true then _ else _) _ _ s
  rw [if_neg (by decide)]
  refine wpAny_bind (slicePart_none (wpAny_bind (slicePart_none (wpAny_bind (wpAny_pure ?_)))))
  show wpAny _ _ (match Builtin.Slice.sliceAdjust none none (-1) (n : Int) with | (lo, hi) => pure (lo, (-1 : Int), Builtin.Slice.slicePlaces lo hi (-1))) _ _ s
  have e1 : Builtin.Slice.sliceAdjust none none (-1) (n : Int) = ((n : Int) - 1, -1) := rfl
  have e2 : Builtin.Slice.slicePlaces ((n : Int) - 1) (-1) (-1) = n := by
    unfold Builtin.Slice.slicePlaces
    have h1 : ¬ ((-1 : Int) > 0) := by omega
    have h2 : ((n : Int) - 1 - -1 - 1) / (- -1) = (n : Int) - 1 := by
      rw [show (- -1 : Int) = 1 by decide, Int.ediv_one]
      omega
    simp only [h1, if_false, h2]
    split <;> omega
  rw [e1]
  show wpAny _ _ (pure ((n : Int) - 1, (-1 : Int), Builtin.Slice.slicePlaces ((n : Int) - 1) (-1) (-1))) _ _ s
  rw [e2]
  exact wpAny_pure h
theorem getItem_tuple_rev {t sl : Addr} {items : Array Value} {vk : Value} {Q : Value → Shared → Prop} (ht : IsTup s.heap t items) (hs : s.heap.IsSliceOf sl .none .none vk) (pk : IsPart vk (some (-1)))
    (h : Q (.ref s.heap.objs.size) { s with heap := s.heap.push { cls := .type "tuple", data := .seq items.toList.reverse.toArray } })
    (hsz : items.size ≤ sizeLine) : wpAny (model prog w) A (getItem (.ref t) (.ref sl)) Q E s := by
  have htake : sizeOk (.seq items.toList.reverse.toArray) := by
    show items.toList.reverse.toArray.size ≤ sizeLine
    rw [List.size_toArray, List.length_reverse, Array.length_toList]
    exact hsz
  obtain ⟨os, hos, hcs, hds⟩ := id hs
  have hTs : s.TypeIs (.ref sl) "slice" := ⟨os, hos, hcs⟩
  unfold getItem
  try with_reducible refine wpAny_holding ?_
  first | refine wpAny_bind (wpAny_pure ?_) | skip
  refine wpAny_bind (wpAny_sequenceKey ht.typeIs (by decide) ?_)
  refine wpAny_bind (wpAny_callSpecial?_slot (name := Str.ofString "__getitem__") ht.typeIs PyProof.Rows.slot_tuple_getitem
    (wpAny_call_entry PyProof.Rows.slot_tuple_getitem ht.typeIs entry_tuple_getitem ?_ (args_tuple_getitem _ _)))
  show wpAny _ _ (Builtin.Tuple.tupleItemsOf (.ref t) >>= _) _ _ s
  refine wpAny_bind (tupleItemsOf_ ht ?_)
  refine wpAny_bind (wpAny_typeOf hTs ?_)
  rw [if_pos (by decide)]
  refine wpAny_bind (sliceApplied_rev hs pk ?_)
  have hno : ¬ ((((items.size : Int) - 1) == 0 && (-1 : Int) == 1 && items.size == items.size) = true) := by
    intro q
    rw [Bool.and_eq_true, Bool.and_eq_true] at q
    have q1 : (-1 : Int) = 1 := eq_of_beq q.1.2
    omega
  show wpAny _ _ (if ((((items.size : Int) - 1) == 0 && (-1 : Int) == 1 && items.size == items.size) = true) then _ else _) _ _ s
  rw [if_neg hno, rev_pick]
  first
    | exact wpAny_bind (m := Builtin.Tuple.tupleExact _) (wpAny_newObj_type (wpAny_pure ⟨_, rfl, wpAny_pure h⟩) htake)
    | exact wpAny_bind (m := Builtin.Tuple.tupleExact _) (wpAny_newObj_type (wpAny_bind (wpAny_pure (wpAny_pure ⟨_, rfl, wpAny_pure h⟩))) htake)
    | exact wpAny_bind (wpAny_bind (m := Builtin.Tuple.tupleExact _) (wpAny_newObj_type (wpAny_pure (wpAny_pure ⟨_, rfl, wpAny_pure h⟩)) htake))
    | exact wpAny_bind (wpAny_bind (m := Builtin.Tuple.tupleExact _) (wpAny_newObj_type (wpAny_pure ⟨_, rfl, wpAny_pure h⟩) htake))
end
end HT2
namespace Ww
open PySem PySem.Spec PyProof.Rows L2
open C8 (Cal CalAt Met Mak pe_c pe_mk pe_mt pe_mt0)
/-! ### t[::-1] -/
def tRevT (K : PySem.W.Frag) (te : TE) : TE := fun σ H Q => te σ H fun x H1 => ∃ a xs, x = .ref a ∧ SqT K H1 a xs ∧ ∀ p, H1 p = none → Q (.ref p) (upd H1 p (.tup xs.reverse))
theorem pe_revT {X : Cx} {e : Expr} {te : TE} {k : Nat} {p1 p2 p3 pos : Pos} (he : PE X e te) : PE X (.Subscript e (.Slice none none (some (.UnaryOp .USub (.Constant (.int 1) k p1) p2)) p3) pos) (tRevT X.K te) := by
  refine ⟨fun pins s σ H Q I h => ?_⟩
  refine Subscript_ (thn (he.run pins s σ H _ I h) fun v s1 ⟨x, H1, I1, r1, q1⟩ => ?_)
  obtain ⟨a, xs, ex, hx, q⟩ := q1
  subst ex
  cases r1
  have hst : PO X (some (.UnaryOp .USub (.Constant (.int 1) k p1) p2)) (tPart (tUn (rU fun i => .int (-i)) (tC (.int 1)))) := po_some (pe_un un_neg pe_int)
  refine wpAny_Slice (thn (po_none.run pins s1 σ H1 (fun o H2 => o = none ∧ H2 = H1) I1 ⟨rfl, rfl⟩) fun vl s2 ⟨l, H2, I2, pl, el, e2⟩ => ?_)
  subst el e2
  cases pl
  refine thn (po_none.run pins s2 σ H2 (fun o H3 => o = none ∧ H3 = H2) I2 ⟨rfl, rfl⟩) fun vu s3 ⟨u, H3, I3, pu, eu, e3⟩ => ?_
  subst eu e3
  cases pu
  refine thn (hst.run pins s3 σ H3 (fun o H4 => o = some (-1) ∧ H4 = H3) I3 ⟨1, rfl, -1, rfl, rfl, rfl⟩) fun vs s4 ⟨o, H4, I4, ps, eo, e4⟩ => ?_
  subst eo e4
  have I5 : Inv X pins σ H4 { s4 with heap := s4.heap.push { cls := .type "slice", data := .fields #[.none, .none, vs] } } := I4.kept (t' := s4.toks) fun b ob q => Heap.get?_push_of_some _ q
  obtain ⟨its, r, ht, hz⟩ := I5.tuple hx
  have hsl : (s4.heap.push { cls := .type "slice", data := .fields #[.none, .none, vs] }).IsSliceOf s4.heap.objs.size .none .none vs := ⟨_, Heap.get?_push_size _ rfl, rfl, rfl⟩
  have hlen : its.toArray.size = xs.length := by rw [List.size_toArray]; exact r.length.symm
  refine tail_any ht.typeIs PyProof.Rows.slot_tuple_getitem.lookup (HT2.getItem_tuple_rev ht hsl ps ?_ (by rw [hlen]; exact hz)) (by rfl)
  refine ⟨.ref _, _, I5.laid (t' := s4.toks) (o := .tup xs.reverse) (fun b ob q => Heap.get?_push_of_some _ q) (Nat.le_refl _) ?_, rfl, q _ (I5.hok.fresh (Nat.le_refl _))⟩
  exact ⟨by rw [List.length_reverse]; exact hz, its.reverse, r.reverse, ⟨_, Heap.get?_push_size _ rfl, rfl, _, rfl⟩⟩

/-! ### constants of the module -/
theorem pe_globI {X : Cx} {x : Str} {i : Int} {pos : Pos} (hg : Gl X x) (h : ∃ t, X.mg x = some (.int i t)) (hd : (x == ("__debug__" : Str)) = false := by decide) : PE X (.Name x pos) (tC (.int i)) := by
  obtain ⟨t, e⟩ := h
  exact pe_glob hg e ⟨t, rfl⟩ hd
theorem pe_globR {X : Cx} {x : Str} {a : Addr} {pos : Pos} (hg : Gl X x) (hm : X.mg x = some (.ref a)) (hd : (x == ("__debug__" : Str)) = false := by decide) : PE X (.Name x pos) (tC (.ref a)) := pe_glob hg hm rfl hd
theorem pe_globS {X : Cx} {x z : Str} {pos : Pos} (hg : Gl X x) (h : ∃ t, X.mg x = some (.str z t)) (hd : (x == ("__debug__" : Str)) = false := by decide) : PE X (.Name x pos) (tC (.str z)) := by
  obtain ⟨t, e⟩ := h
  exact pe_glob hg e ⟨t, rfl⟩ hd

/-! ### calls -/
theorem pe_callLA {X : Cx} {k j i : Nat} {f : Addr} {sp : Sp} {x : Str} {p pos : Pos} {e : Expr} {es : List Expr} {t : TA} (c : CalAt X.prog X.w X.K X.mg X.base k f sp) (hr : Room j X.A) (hk : k ≤ j) (hN : X.N[i]? = some x) (hv : Vis X.env.scope x) (ha : PA X (e :: es) t)
    (hdb : (x == ("__debug__" : Str)) = false := by decide) (hcd : (x == ("__classdict__" : Str)) = false := by decide)
    (he : starEach (e :: es) X.env = (false, eval e X.env) :: starEach es X.env := by rfl) (hpl : (backTo pos (starEach es X.env)).any (·.1) = false := by rfl) : PE X (.Call (.Name x p) (e :: es) [] pos) (tCallL i f sp [] E0 t) := by
  obtain ⟨fd, ps, F, kp, b⟩ := c.ex
  exact pe_callL F (hr.mono hk) hN hv kp b .nil pass0 ha hdb hcd he hpl
theorem pe_c0 {X : Cx} {k j : Nat} {x : Str} {sp : Sp} {dvs : List V} {p pos : Pos} (c : Cal X.prog X.w X.K X.mg X.base k x sp dvs) (hr : Room j X.A) (hk : k ≤ j) (hg : Gl X x) (hdb : (x == ("__debug__" : Str)) = false := by decide) :
    PE X (.Call (.Name x p) [] [] pos) (tCall sp dvs E0 tNil) := by
  obtain ⟨f, fd, ps, ds, F, hm, kp, b, d⟩ := c.ex
  exact pe_call0 F (hr.mono hk) hg hm kp b d pass0 hdb
/-- places of a list overwritten -/
def setAll {α : Type} : List α → List Nat → List α → List α
  | its, p :: ps, w :: ws => setAll (its.set p w) ps ws
  | its, [], _ => its
  | its, _ :: _, [] => its
theorem setAll_vals : ∀ {xs : List V} {us : List Value} (ps : List Nat) {ys : List V} {ws : List Value}, Vals xs us → Vals ys ws → Vals (setAll xs ps ys) (setAll us ps ws)
  | _, _, [], _, _, r, _ => by
    cases ‹Vals _ _› <;> exact r
  | _, _, p :: ps, _, _, r, .nil => r
  | _, _, p :: ps, _, _, r, .cons q s => setAll_vals ps (r.set q p) s
/-- a def that may be called with n values, the keywords ks in the places pos (counted from the first default) -/
structure Kal (P : Program) (w : World) (K : PySem.W.Frag) (mg : Str → Option Value) (base : Heap) (k : Nat) (x : Str) (sp : Sp) (n : Nat) (ks : List Str) (pl : List Nat) (dvs : List V) : Prop where
  ex : ∃ (f : Addr) (fd : FuncData) (ps : List Str) (its : List Value), FnOk P w K mg base CX0 k f fd ps sp ∧ mg x = some (.ref f) ∧ PySem.W.keepIn K (.ref f) = true ∧ KBn K fd ps n ks (fun us ws => us ++ setAll its pl ws) (fun vs zs => vs ++ setAll dvs pl zs)
theorem FunD.kbinds1 {K : PySem.W.Frag} {x qual : Str} {params : Arguments} {body : List Stmt} {scope : Scope} {dvs : List V} {kws : List (Str × V)} {f : Addr} {fd : FuncData} {ps : List Str} (F : FunD K x qual params body scope dvs kws f fd) (n : Nat) (ks : List Str) (pl : List Nat) (hd : dvs ≠ [])
    (h : ∀ (T : Addr) (kV doc pm : Value) (an : Option Addr) (cdv ct : Value) (us its ws : List Value), us.length = n → its.length = dvs.length → ws.length = ks.length →
      ∃ k, bindArgs (PySem.W.fnOf x qual params body scope (.ref T) kV doc pm an cdv ct) ⟨us, ks.zip ws⟩ = seqItems? (.ref T) >>= k ∧ k (some its.toArray) = pure (ps.zip (us ++ setAll its pl ws))) :
    ∃ its : List Value, KBn K fd ps n ks (fun us ws => us ++ setAll its pl ws) (fun vs zs => vs ++ setAll dvs pl zs) := by
  obtain ⟨oc, od, dV, kV, doc, pm, an, cdv, ct, osl, rfl, lk, hcd, hD, hK⟩ := F.ex
  rcases hD with ⟨e, _⟩ | ⟨_, T, o, its, m, rfl, lT, oT, rT⟩
  · exact absurd e hd
  · refine ⟨its, ⟨fun s us ws X l1 l2 => ?_, fun r1 r2 => r1.append (setAll_vals pl rT r2)⟩⟩
    obtain ⟨k, e1, e2⟩ := h T kV doc pm an cdv ct us its ws l1 rT.length.symm l2
    refine BindsTo.of_looks fun M => ?_
    rw [e1]
    exact looks_items X lT oT (.of_pure e2)
theorem pe_ck {X : Cx} {k j n : Nat} {x : Str} {sp : Sp} {ks : List Str} {pl : List Nat} {dvs : List V} {p pos : Pos} {e : Expr} {es : List Expr} {kws : List Keyword} {t tk : TA} (c : Kal X.prog X.w X.K X.mg X.base k x sp n ks pl dvs) (hr : Room j X.A) (hk : k ≤ j) (hg : Gl X x) (ha : PA X (e :: es) t) (hkw : PK X kws tk)
    (hall : (backToKw pos (keywordEach kws X.env)).all (·.1.isSome) = true := by rfl) (hks : (backToKw pos (keywordEach kws X.env)).filterMap (·.1) = ks := by rfl)
    (hdb : (x == ("__debug__" : Str)) = false := by decide) (he : starEach (e :: es) X.env = (false, eval e X.env) :: starEach es X.env := by rfl)
    (hpl : ((backTo pos (starEach (e :: es) X.env)).any (·.1) || (backToKw pos (keywordEach kws X.env)).any (·.1.isNone)) = false := by rfl) :
    PE X (.Call (.Name x p) (e :: es) kws pos) (tCallN n ks.length sp (fun vs zs => vs ++ setAll dvs pl zs) E0 t tk) := by
  obtain ⟨f, fd, ps, its, F, hm, kp, b⟩ := c.ex
  exact pe_callN F (hr.mono hk) hg hm kp b pass0 ha hkw hall hks hdb he hpl
/-! what a written table holds, called -/
/-- the value v (a def's address) may be called without arguments -/
def tPlain0 (f : Addr) (sp : Sp) (te : TE) : TE := fun σ H Q => te σ H fun x H1 => x = .ref f ∧ sp [] H1 Q E0
theorem pe_plain0 {X : Cx} {k j : Nat} {f : Addr} {sp : Sp} {o i : Expr} {te : TE} {p pos : Pos} (c : CalAt X.prog X.w X.K X.mg X.base k f sp) (hr : Room j X.A) (hk : k ≤ j) (ho : PE X (.Subscript o i p) te)
    (he : eval (.Call (.Subscript o i p) [] [] pos) X.env = (do callWith pos (← eval (.Subscript o i p) X.env) [] (backTo pos (starEach [] X.env)) (backToKw pos (keywordEach [] X.env))) := by rfl) :
    PE X (.Call (.Subscript o i p) [] [] pos) (tPlain0 f sp te) := by
  obtain ⟨fd, ps, F, kp, b⟩ := c.ex
  refine ⟨fun pins s σ H Q I h => ?_⟩
  refine Call_ (thn (ho.run pins s σ H _ I h) fun u s1 ⟨x, H1, I1, r1, ex, q⟩ => ?_) he
  subst ex
  obtain rfl : u = Value.ref f := r1
  exact PySem.W.callWith_K0 I1.kIn kp (run_fn (us := []) F (hr.mono hk) b .nil pass0 I1 .nil q)
/-! get of a written table -/
def tKGet (K : PySem.W.Frag) (d : Addr) (ty tx : TE) : TE := fun σ H Q => ty σ H fun y H1 => tx σ H1 fun z H2 => ∃ (k : Str) (u : Value) (v : V), y = .str k ∧ PySem.W.nsIn K d k = some (some u) ∧ RelV v u ∧ Q v H2
theorem pe_kget {X : Cx} {d : Addr} {es : Array DictEntry} {n : Nat} {x : Str} {e f : Expr} {apos cpos p : Pos} {ty tx : TE} (D : KDict X.K X.w d es n) (hg : Gl X x) (hm : X.mg x = some (.ref d)) (he : PE X e ty) (hf : PE X f tx)
    (m : M2 X (.Name x p) "get" apos e f cpos := by exact ⟨rfl, rfl, rfl, rfl⟩) (hdb : (x == ("__debug__" : Str)) = false := by decide) : PE X (.Call (.Attribute (.Name x p) "get" apos) [e, f] [] cpos) (tKGet X.K d ty tx) := by
  refine ⟨fun pins s σ H Q I h => ?_⟩
  refine wpAny_Call_method m.base m.few m.line PySem.F.plainAttrs_dict PySem.F.slot_dict_get PySem.F.type_dict_get (ld_glob I hg hm ?_ hdb)
  have hm' := PySem.W.mapOf_K (prog := X.prog) (w := X.w) I.kIn D.at_ D.lit
  refine ⟨hm'.typeIs, fun b q => ?_, ?_⟩
  · cases q
    exact ⟨_, I.kIn _ _ D.at_, rfl⟩
  rw [m.trees]
  refine Calls.callWith_builtin rfl (Calls.evalArgs_plain (Calls.spliced_cons (thn (he.run pins s σ H _ I h) fun iv s2 ⟨y, H2, I2, ry, q2⟩ =>
    Calls.spliced_cons (thn (hf.run pins s2 σ H2 _ I2 q2) fun fv s3 ⟨z, H3, I3, rz, k, u, v, ey, en, rv, q3⟩ => Calls.spliced_nil ?_))))
  subst ey
  obtain ⟨t, rfl⟩ := ry
  have hm3 := PySem.W.mapOf_K (prog := X.prog) (w := X.w) I3.kIn D.at_ D.lit
  refine call_meetsIn PySem.F.slot_dict_get hm3.typeIs PySem.F.entry_dict_get (PySem.F.args_dict_get_3 _ _ _) (meets_dict_get_default (strKind X.prog X.w) d (strKind_is X.prog X.w k t) D.low fv) ⟨_, hm3, ?_⟩
  show EP X pins σ Q ((findBy Value.isStrOf es k).getD fv) _
  rw [PySem.W.find_K D.at_ en]
  exact ⟨v, H3, I3.tok _, rv, q3⟩

/-! ### evaluation over data -/
theorem setAll_repL {K : PySem.W.Frag} {H : Hp} : ∀ {xs : List V} {us : List D} (ps : List Nat) {ys : List V} {ws : List D}, RepL K H xs us → RepL K H ys ws → RepL K H (setAll xs ps ys) (setAll us ps ws)
  | _, _, [], _, _, r, q => by
    cases q <;> exact r
  | _, _, p :: ps, _, _, r, .nil => r
  | xs, us, p :: ps, _, _, r, .cons q s => setAll_repL ps (RepL.set' r q p) s
where
  RepL.set' {K : PySem.W.Frag} {H : Hp} : ∀ {xs : List V} {us : List D} {v : V} {d : D}, RepL K H xs us → Rep K H v d → ∀ p, RepL K H (xs.set p v) (us.set p d)
  | _, _, _, _, .nil, _, _ => .nil
  | _, _, _, _, .cons _ r, h, 0 => .cons h r
  | _, _, _, _, .cons q r, h, p + 1 => .cons q (RepL.set' r h p)
section
variable {K : PySem.W.Frag} {δ : DS} {A : List D → D → Prop} {ds es : List D} {r : D} {E : XK} {t tk : TA} {dvs : List V} {pl : List Nat} {n m : Nat}
theorem ev_callN (h : EvA K t δ ds) (hk : EvA K tk δ es) (hn : ds.length = n) (hm : es.length = m) (hA : A (ds ++ setAll (dvs.map D.v) pl es) r) : EvD K (tCallN n m (PSp K A) (fun vs zs => vs ++ setAll dvs pl zs) E t tk) δ r := fun σ H Q F q =>
  h σ H _ F fun vs H1 e1 r1 => hk σ H1 _ (F.same e1) fun zs H2 e2 r2 => ⟨by rw [r1.length]; exact hn, by rw [r2.length]; exact hm, _, r, (r1.same e2).append (setAll_repL pl (RepL.vals dvs) r2), hA, fun v H3 e3 r3 => q v H3 ((e1.trans e2).trans e3) r3⟩
theorem ev_plain0 {f : Addr} {te : TE} (h : EvD K te δ (.v (.ref f))) (hA : A [] r) : EvD K (tPlain0 f (PSp K A) te) δ r := fun σ H Q F q =>
  h σ H _ F fun v H1 e1 r1 => ⟨r1.val, [], r, .nil, hA, fun v H2 e2 r2 => q v H2 (e1.trans e2) r2⟩
theorem ev_kget {d : Addr} {ty tx : TE} {k : Str} {u : Value} {v z : V} (hy : EvD K ty δ (.s k)) (hx : EvD K tx δ (.v z)) (hn : PySem.W.nsIn K d k = some (some u)) (hv : RelV v u) : EvD K (tKGet K d ty tx) δ (.v v) := fun σ H Q F q =>
  hy σ H _ F fun y H1 e1 r1 => hx σ H1 _ (F.same e1) fun z H2 e2 r2 => ⟨k, u, v, r1.val, hn, hv, q _ H2 (e1.trans e2) (.v _)⟩
end
end Ww
namespace Ww
open PySem PySem.Spec PyProof.Rows L2
section
variable {K : PySem.W.Frag} {δ : DS} {ta : TE} {ds : List D}
theorem ev_isN {r2 : R2} {x : V} (ha : EvD K ta δ (.v x)) (hr : r2 = fun x y H Q => y = .non ∧ Q (.bl (decide (x = .non))) H := by rfl) : EvD K (tOp r2 ta (tC .non)) δ (.b (decide (x = .non))) := by
  subst hr
  exact ev_op ha ev_c fun H Q q => ⟨rfl, q⟩
theorem ev_isN' {r2 : R2} (ha : EvD K ta δ (.t ds)) (hr : r2 = fun x y H Q => y = .non ∧ Q (.bl (decide (x = .non))) H := by rfl) : EvD K (tOp r2 ta (tC .non)) δ (.b false) := by
  subst hr
  intro σ H Q F q
  refine ha σ H _ F fun v H1 e1 r1 => ?_
  obtain ⟨a, vs, rfl, _⟩ := r1.tup
  exact ⟨rfl, q _ H1 e1 (.v _)⟩
end
end Ww
namespace Ww
open PySem PySem.Spec PyProof.Rows L2
/-! ### loops over data -/
section
variable {K : PySem.W.Frag} {te : TE} {tb : L2.TS}
theorem rn_is {t : L2.TS} {δ δ1 δ2 : DS} (h : RunN K t δ δ1) (e : δ1 = δ2) : RunN K t δ δ2 := by
  rw [← e]
  exact h
theorem rn_enumS {z : Str} {a b : Nat} (δ : Nat → DS) (h : EvD K te (δ 0) (.s z)) (hb : ∀ (i c : Nat), z.cps[i]? = some c → RunN K tb (((δ i).set a (some (.i (i : Nat)))).set b (some (.s ⟨#[c]⟩))) (δ (i + 1))) :
    RunN K (tFor (iEnumS (tCons te tNil)) (gTup K 2 (gCons (gName a) (gCons (gName b) gNil))) tb) (δ 0) (δ z.cps.size) := fun σ H E F q => by
  refine h σ H _ F fun v H1 e1 r1 => ?_
  cases r1.val
  refine ⟨z, rfl, for_enumS (fun i σ H' => Same H H' ∧ FrD K H' σ (δ i)) ⟨e1, F.same e1⟩ ?_ fun σ2 H2 p => q σ2 H2 p.1 p.2⟩
  rintro i c T σ2 H2 hc ⟨e2, F2⟩ hT
  refine ⟨T, _, rfl, .inl (.inl upd_same), rfl, _, _, rfl, _, _, rfl, rfl, ?_⟩
  have F3 := (((F2.same (Same.new (o := .tup [V.int (i : Nat), V.str ⟨#[c]⟩]) hT)).set (.v (.int (i : Nat))) a).set (.v (.str ⟨#[c]⟩)) b)
  exact hb i c hc _ _ _ F3 fun σ3 H3 e3 F4 => ⟨e2.trans ((Same.new hT).trans e3), F4⟩
theorem rn_enumT {ds : List D} {a b : Nat} (δ : Nat → DS) (h : EvD K te (δ 0) (.t ds)) (hb : ∀ (i : Nat) d, ds[i]? = some d → RunN K tb (((δ i).set a (some (.i (i : Nat)))).set b (some d)) (δ (i + 1))) :
    RunN K (tFor (iEnumT K (tCons te tNil)) (gTup K 2 (gCons (gName a) (gCons (gName b) gNil))) tb) (δ 0) (δ ds.length) := fun σ H E F q => by
  refine h σ H _ F fun v H1 e1 r1 => ?_
  obtain ⟨p, vs, rfl, hs, rl⟩ := r1.tup
  refine ⟨p, vs, rfl, hs, for_enumT (K := K) (a := p) (xs := vs) (fun i σ H' => Same H H' ∧ Same H1 H' ∧ FrD K H' σ (δ i)) ⟨e1, Same.refl _, F.same e1⟩ (fun i σ H' _ p => (Stay.same p.2.1).seqT hs) ?_ fun σ2 H2 p => ?_⟩
  · rintro i x T σ2 H2 hx ⟨e2, e2', F2⟩ hT
    obtain ⟨d, hd, rd⟩ := rl.get' hx
    refine ⟨T, _, rfl, .inl (.inl upd_same), rfl, _, _, rfl, _, _, rfl, rfl, ?_⟩
    have F3 := (((F2.same (Same.new (o := .tup [V.int (i : Nat), x]) hT)).set (.v (.int (i : Nat))) a).set ((rd.same e2').same (Same.new hT)) b)
    exact hb i d hd _ _ _ F3 fun σ3 H3 e3 F4 => ⟨e2.trans ((Same.new hT).trans e3), e2'.trans ((Same.new hT).trans e3), F4⟩
  · rw [rl.length] at p
    exact q σ2 H2 p.1 p.2.2
theorem rn_forT {ds : List D} {a : Nat} (δ : Nat → DS) (h : EvD K te (δ 0) (.t ds)) (hb : ∀ (i : Nat) d, ds[i]? = some d → RunN K tb ((δ i).set a (some d)) (δ (i + 1))) :
    RunN K (tFor (iTup K te) (gName a) tb) (δ 0) (δ ds.length) := fun σ H E F q => by
  refine h σ H _ F fun v H1 e1 r1 => ?_
  obtain ⟨p, vs, rfl, hs, rl⟩ := r1.tup
  refine ⟨p, rfl, ⟨vs, hs⟩, for_tup (K := K) (a := p) (xs := vs) (fun i σ H' => Same H H' ∧ Same H1 H' ∧ FrD K H' σ (δ i)) ⟨e1, Same.refl _, F.same e1⟩ (fun i σ H' _ p => (Stay.same p.2.1).seqT hs) ?_ fun σ2 H2 p => ?_⟩
  · rintro i x σ2 H2 hx ⟨e2, e2', F2⟩
    obtain ⟨d, hd, rd⟩ := rl.get' hx
    exact hb i d hd _ _ _ (F2.set (rd.same e2') a) fun σ3 H3 e3 F4 => ⟨e2.trans e3, e2'.trans e3, F4⟩
  · rw [rl.length] at p
    exact q σ2 H2 p.1 p.2.2
theorem rn_forR {n : Int} {a : Nat} (δ : Nat → DS) (h : EvD K te (δ 0) (.i n)) (h1 : -(2 ^ 62) ≤ n) (h2 : n < 2 ^ 62) (hb : ∀ (i : Nat), (i : Int) < n → RunN K tb ((δ i).set a (some (.i (0 + (i : Nat))))) (δ (i + 1))) :
    RunN K (tFor (iRng1 (tCons te tNil)) (gName a) tb) (δ 0) (δ n.toNat) := fun σ H E F q => by
  refine h σ H _ F fun v H1 e1 r1 => ?_
  cases r1.val
  refine ⟨n, rfl, h1, h2, for_range (lo := 0) (n := n.toNat) (fun i σ H' => Same H H' ∧ FrD K H' σ (δ i)) ⟨e1, F.same e1⟩ ?_ fun σ2 H2 p => q σ2 H2 p.1 p.2⟩
  rintro i σ2 H2 hi ⟨e2, F2⟩
  exact hb i (by omega) _ _ _ (F2.set (.v _) a) fun σ3 H3 e3 F4 => ⟨e2.trans e3, F4⟩
end
end Ww
namespace Ww
open PySem PySem.Spec PyProof.Rows L2
/-! ### more of evaluation: len, isinstance, chains, tables -/
section
variable {K : PySem.W.Frag} {δ : DS} {ta tb tc te : TE} {ds : List D} {b : Bool} {T : String}
theorem ev_len {n : Int} {r : List V → Hp → VK → Prop} (ha : EvD K ta δ (.t ds)) (hn : (ds.length : Int) = n) (hr : r = fun xs H Q => ∃ p ys, xs = [.ref p] ∧ (SqL K H p ys ∨ SqT K H p ys) ∧ Q (.int ys.length) H := by rfl) : EvD K (tCB r (tCons ta tNil)) δ (.i n) := by
  subst hr
  intro σ H Q F q
  refine ha σ H _ F fun v H1 e1 r1 => ?_
  obtain ⟨p, vs, rfl, hs, rl⟩ := r1.tup
  refine ⟨p, vs, rfl, .inr hs, ?_⟩
  rw [rl.length, hn]
  exact q _ H1 e1 (.v _)
theorem ev_lenS {z : Str} {n : Int} {r : List V → Hp → VK → Prop} (ha : EvD K ta δ (.s z)) (hz : z.length ≤ sizeLine) (hn : (z.length : Int) = n) (hr : r = fun xs H Q => ∃ z, xs = [.str z] ∧ z.length ≤ sizeLine ∧ Q (.int z.length) H := by rfl) : EvD K (tCB r (tCons ta tNil)) δ (.i n) := by
  subst hr
  intro σ H Q F q
  refine ha σ H _ F fun v H1 e1 r1 => ?_
  cases r1.val
  refine ⟨z, rfl, hz, ?_⟩
  rw [hn]
  exact q _ H1 e1 (.v _)
theorem tyx_tup {H : Hp} {a : Addr} {xs : List V} (h : SqT K H a xs) : TyX K H (.ref a) (.type "tuple") := by
  rcases h with (h | ⟨o, h⟩) | ⟨o, its, n, h, hc, _⟩
  · exact .base (.tup h)
  · exact .fTuple h
  · exact .kTuple h hc
theorem isi_tup (ha : EvD K ta δ (.t ds)) (hk : kitB "tuple" T = some b := by decide +kernel) : EvD K (tCB (rIsi K) (tCons ta (tCons (tC (.ty T)) tNil))) δ (.b b) := fun σ H Q F q =>
  ha σ H _ F fun v H1 e1 r1 => by
    obtain ⟨p, vs, rfl, hs, rl⟩ := r1.tup
    exact ⟨_, _, _, _, b, rfl, .ty T, tyx_tup hs, kit_ty hk, q _ H1 e1 (.v _)⟩
theorem isi_int {n : Int} (ha : EvD K ta δ (.i n)) (hk : kitB "int" T = some b := by decide +kernel) : EvD K (tCB (rIsi K) (tCons ta (tCons (tC (.ty T)) tNil))) δ (.b b) := fun σ H Q F q =>
  ha σ H _ F fun v H1 e1 r1 => by
    cases r1.val
    exact ⟨_, _, _, _, b, rfl, .ty T, .base (.int n), kit_ty hk, q _ H1 e1 (.v _)⟩
theorem isi_str {z : Str} (ha : EvD K ta δ (.s z)) (hk : kitB "str" T = some b := by decide +kernel) : EvD K (tCB (rIsi K) (tCons ta (tCons (tC (.ty T)) tNil))) δ (.b b) := fun σ H Q F q =>
  ha σ H _ F fun v H1 e1 r1 => by
    cases r1.val
    exact ⟨_, _, _, _, b, rfl, .ty T, .base (.str z), kit_ty hk, q _ H1 e1 (.v _)⟩
theorem ev_chain {n m k : Int} {r1 r2 : R2} (ha : EvD K ta δ (.i n)) (hb : EvD K tb δ (.i m)) (hc : EvD K tc δ (.i k)) (h1 : ∀ H (Q : VK), Q (.bl true) H → r1 (.int n) (.int m) H Q) (h2 : ∀ H (Q : VK), Q (.bl b) H → r2 (.int m) (.int k) H Q) : EvD K (tChain r1 r2 ta tb tc) δ (.b b) := fun σ H Q F q =>
  ha σ H _ F fun v H1 e1 q1 => hb σ H1 _ (F.same e1) fun u H2 e2 q2 => by
    cases q1.val
    cases q2.val
    refine h1 H2 _ ⟨true, rfl, ?_⟩
    exact iteT (hc σ H2 _ ((F.same e1).same e2) fun z H3 e3 q3 => by
      cases q3.val
      exact h2 H3 _ (q _ H3 ((e1.trans e2).trans e3) (.v _)))
theorem ev_chainF {n m : Int} {r1 r2 : R2} (ha : EvD K ta δ (.i n)) (hb : EvD K tb δ (.i m)) (h1 : ∀ H (Q : VK), Q (.bl false) H → r1 (.int n) (.int m) H Q) : EvD K (tChain r1 r2 ta tb tc) δ (.b false) := fun σ H Q F q =>
  ha σ H _ F fun v H1 e1 q1 => hb σ H1 _ (F.same e1) fun u H2 e2 q2 => by
    cases q1.val
    cases q2.val
    refine h1 H2 _ ⟨false, rfl, ?_⟩
    exact iteF (q _ H2 (e1.trans e2) (.v _))
/-- n ≤ m as a rule -/
theorem le_t {n m : Int} (h : n ≤ m) : ∀ (H : Hp) (Q : VK), Q (.bl true) H → (rI0 fun i j => .bl (decide (i ≤ j))) (.int n) (.int m) H Q := fun H Q q => ⟨n, m, rfl, rfl, by show Q (.bl (decide (n ≤ m))) H; rw [decide_eq_true h]; exact q⟩
theorem lt_t {n m : Int} (h : n < m) : ∀ (H : Hp) (Q : VK), Q (.bl true) H → (rI0 fun i j => .bl (decide (i < j))) (.int n) (.int m) H Q := fun H Q q => ⟨n, m, rfl, rfl, by show Q (.bl (decide (n < m))) H; rw [decide_eq_true h]; exact q⟩
theorem ev_inkd {d : Addr} {z : Str} {r : Option Value} {r2 : R2} (ha : EvD K ta δ (.s z)) (hn : PySem.W.nsIn K d z = some r) (hr : r2 = fun x y H Q => ∃ (z : Str) (r : Option Value), x = .str z ∧ y = .ref d ∧ PySem.W.nsIn K d z = some r ∧ Q (.bl r.isSome) H := by rfl) : EvD K (tOp r2 ta (tC (.ref d))) δ (.b r.isSome) := by
  subst hr
  exact ev_op ha ev_c fun H Q q => ⟨z, r, rfl, rfl, hn, q⟩
theorem ev_ixkd {d : Addr} {z : Str} {v : V} (hb : EvD K tb δ (.s z)) (hn : KDct K w d z v) : EvD K (tOp (rIxD K w) (tC (.ref d)) tb) δ (.v v) := ev_op ev_c hb fun H Q q => ⟨d, z, v, rfl, rfl, hn, q⟩
/-- x in a tuple of texts and ints -/
theorem ev_inT {neg : Bool} {x : V} {xs : List V} (ha : EvD K ta δ (.v x)) (hb : EvD K tb δ (.t (xs.map D.v))) (hx : flatV x = true) (hf : xs.all flatV = true) : EvD K (tOp (rIn K neg) ta tb) δ (.b (if neg then !inV x xs else inV x xs)) := fun σ H Q F q =>
  ha σ H _ F fun v H1 e1 r1 => hb σ H1 _ (F.same e1) fun u H2 e2 r2 => by
    cases r1.val
    obtain ⟨p, vs, rfl, hs, rl⟩ := r2.tup
    have e := rl.vals_eq
    subst e
    exact ⟨p, _, rfl, .inr hs, hx, hf, q _ H2 (e1.trans e2) (.v _)⟩
theorem psp_ofN {A : List D → D → Prop} {N : List Str} {ts : L2.TS} (h : ∀ ds r, A ds r → r = .v .non ∧ ∃ δ', RunN K ts (startD N.length ds) δ') {vs : List V} {H : Hp} {Q : VK} {E : XK} (hs : PSp K A vs H Q E) : ts { nx := fun _ H' => Q .non H', rt := Q } (L2.start N vs) H := by
  obtain ⟨ds, r, r1, a, k⟩ := hs
  obtain ⟨rfl, δ', hR⟩ := h ds r a
  exact hR _ H _ (FrD.start r1) fun σ2 H2 e2 F2 => k _ H2 e2 (.v _)
end
end Ww

set_option Elab.async false
set_option linter.all false
set_option maxRecDepth 100000
set_option maxHeartbeats 4000000
/-! W4: the mirror: rows, tellings as Lean data; what the makers of tellings give. -/
namespace Ww
open PySem L2

/-! ### rows -/
structure Ix where
  c : Int
  i : Int
  j : Int
  m : Int
def Ix.d (x : Ix) : D := .t [.i x.c, .i x.i, .i x.j, .i x.m]
def Ix.at (x : Ix) (n i j : Int) : Int := x.c + x.i * i + x.j * j + x.m * n
def bound (k : Int) : Prop := -200 ≤ k ∧ k ≤ 200
def Ix.ok (x : Ix) : Prop := bound x.c ∧ bound x.i ∧ bound x.j ∧ bound x.m
/-- the letters that stand in the tellings -/
inductive Lt where
  | a | b | c | m | s | t | u | z
  deriving DecidableEq
def Lt.str : Lt → Str
  | .a => "a" | .b => "b" | .c => "c" | .m => "m" | .s => "s" | .t => "t" | .u => "u" | .z => "z"
structure Cl (α : Type) where
  l : Lt
  p : α
inductive One where
  | move | twice | half
  deriving DecidableEq
def One.str : One → Str
  | .move => "move" | .twice => "twice" | .half => "half"
inductive Two where
  | sum | less | both | any | odd
  deriving DecidableEq
def Two.str : Two → Str
  | .sum => "sum" | .less => "less" | .both => "both" | .any => "any" | .odd => "odd"
inductive Row (α : Type) where
  | mark (d : Int)
  | ask (x : Cl α)
  | set (to : Cl α) (d : Int)
  | one (o : One) (to x : Cl α)
  | two (o : Two) (to x y : Cl α)
def Cl.d {α : Type} (f : α → D) (x : Cl α) : D := .t [.s x.l.str, f x.p]
def Cl.map {α β : Type} (f : α → β) (x : Cl α) : Cl β := ⟨x.l, f x.p⟩
def Row.d {α : Type} (f : α → D) : Row α → D
  | .mark d => .t [.s "mark", .i d]
  | .ask x => .t [.s "ask", x.d f]
  | .set to d => .t [.s "set", to.d f, .i d]
  | .one o to x => .t [.s o.str, to.d f, x.d f]
  | .two o to x y => .t [.s o.str, to.d f, x.d f, y.d f]
def Row.map {α β : Type} (f : α → β) : Row α → Row β
  | .mark d => .mark d
  | .ask x => .ask (x.map f)
  | .set to d => .set (to.map f) d
  | .one o to x => .one o (to.map f) (x.map f)
  | .two o to x y => .two o (to.map f) (x.map f) (y.map f)
def dig (d : Int) : Prop := 0 ≤ d ∧ d ≤ 1
/-- digits are digits, places are good -/
def Row.ok {α : Type} (q : α → Prop) : Row α → Prop
  | .mark d => dig d
  | .ask x => q x.p
  | .set to d => q to.p ∧ dig d
  | .one _ to x => q to.p ∧ q x.p
  | .two _ to x y => q to.p ∧ q x.p ∧ q y.p
abbrev RowI := Row Ix
abbrev RowP := Row Int
def RowI.dat (r : RowI) : D := Row.d Ix.d r
def RowP.dat (r : RowP) : D := Row.d D.i r
def place (p : Int) : Prop := 0 ≤ p ∧ p ≤ 99

/-! ### sentences -/
inductive Thing where
  | sl (l : Lt) (x y : Ix)
  | mk
def Thing.d : Thing → D
  | .sl l x y => .t [.s "slice", .s l.str, x.d, y.d]
  | .mk => .t [.s "mark"]
def Thing.ok : Thing → Prop
  | .sl _ x y => x.ok ∧ y.ok
  | .mk => True
structure Term where
  f : Int
  e : List Int
  th : List Thing
def Term.d (x : Term) : D := .t [.i x.f, .t (x.e.map D.i), .t (x.th.map Thing.d)]
def Term.ok (x : Term) : Prop := x.f.natAbs < 100 ∧ x.e.length = 6 ∧ (∀ k ∈ x.e, bound k) ∧ x.th.length ≤ 2 ∧ ∀ y ∈ x.th, y.ok
abbrev Sent := List Term
def Sent.d (x : Sent) : D := .t (x.map Term.d)
def Sent.ok (x : Sent) : Prop := x.length ≤ 20 ∧ ∀ y ∈ x, y.ok

/-! ### tellings -/
structure Cnt where
  c : Int
  m : Int
  t : Int
def Cnt.d (x : Cnt) : D := .t [.i x.c, .i x.m, .i x.t]
def Cnt.ok (x : Cnt) : Prop := bound x.c ∧ bound x.m ∧ bound x.t
def Cnt.of (x : Cnt) (w n : Int) : Int := x.c + x.m * n + x.t * w * n
/-- a part over parts of one kind -/
inductive Part (β : Type) where
  | row (r : RowI)
  | rounds (k : Cnt) (s : Sent) (ps : List β)
def Part.d {β : Type} (f : β → D) : Part β → D
  | .row r => .t [.s "row", r.dat]
  | .rounds k s ps => .t [.s "rounds", k.d, Sent.d s, .t (ps.map f)]
def rowPart (r : RowI) : D := .t [.s "row", r.dat]
abbrev P1 := Part RowI
abbrev P2 := Part P1
def P1.dat (p : P1) : D := Part.d rowPart p
def P2.dat (p : P2) : D := Part.d P1.dat p
abbrev Tell := List P2
def Tell.dat (t : Tell) : D := .t (t.map P2.dat)
def RowI.ok (r : RowI) : Prop := Row.ok Ix.ok r
def Part.ok {β : Type} (q : β → Prop) : Part β → Prop
  | .row r => RowI.ok r
  | .rounds k s ps => k.ok ∧ Sent.ok s ∧ ∀ p ∈ ps, q p
def P1.ok (p : P1) : Prop := Part.ok RowI.ok p
def P2.ok (p : P2) : Prop := Part.ok P1.ok p
def Tell.ok (t : Tell) : Prop := ∀ p ∈ t, P2.ok p

/-! ### what the makers give, over data -/
def f_cell : List D → Option D
  | [l, c, i, j, m] => some (.t [l, .t [c, i, j, m]])
  | _ => none
def f_do : List D → Option D
  | [r] => some (.t [.s "row", r])
  | _ => none
def f_times_n : List D → Option D
  | [p, .v .non] => some (.t [.s "rounds", .t [.i 0, .i 1, .i 0], .t [], p])
  | [p, .t s] => some (.t [.s "rounds", .t [.i 0, .i 1, .i 0], .t s, p])
  | _ => none
def ixA (l : Str) (c i j m : D) : D := .t [.s l, .t [c, i, j, m]]
def dNaught : D := ixA "z" (.i 0) (.i 0) (.i 0) (.i 0)
def f_mark_to : List D → Option D
  | [a] => some (.t [.t [.s "row", .t [.s "sum", ixA "m" a (.i 0) (.i 0) (.i 0), dNaught, dNaught]]])
  | _ => none
def f_bare_mark_to : List D → Option D
  | [a] => some (.t [.t [.s "row", .t [.s "set", ixA "u" (.i 0) (.i 0) (.i 0) (.i 0), .i 1]],
      .t [.s "row", .t [.s "less", ixA "m" a (.i 0) (.i 0) (.i 0), ixA "u" (.i 0) (.i 0) (.i 0) (.i 0), dNaught]]])
  | _ => none
/-! the tellings, typed -/
def cl (l : Lt) (c : Int := 0) (i : Int := 0) (j : Int := 0) (m : Int := 0) : Cl Ix := ⟨l, ⟨c, i, j, m⟩⟩
def naught : Cl Ix := cl .z
def markTo (a : Int) : List P2 := [.row (.two .sum (cl .m a) naught naught)]
def bareMarkTo (a : Int) : List P2 := [.row (.set (cl .u) 1), .row (.two .less (cl .m a) (cl .u) naught)]
def endsT (c m : Int) : List P2 :=
  [.row (.set (cl .t) 0), .rounds ⟨c, m, 0⟩ [] [.row (.two .any (cl .t) (cl .t) (cl .c 0 1))], .row (.ask (cl .t))] ++ bareMarkTo 2 ++ [.row (.mark 0), .row (.one .twice (cl .t) (cl .c (c - 1) 0 0 m))] ++ markTo 3
def signsT : List P2 :=
  [.row (.mark 0), .row (.one .twice (cl .t) (cl .a (-1) 0 0 1)), .row (.two .sum (cl .s 0) naught naught),
   .row (.mark 0), .row (.one .twice (cl .t) (cl .b (-1) 0 0 1)), .row (.two .sum (cl .s 1) naught naught),
   .row (.mark 0), .row (.one .twice (cl .t) (cl .c (-1) 0 0 1)), .row (.two .sum (cl .s 2) naught naught)]
def flat : List Int := [0, 0, 0, 0, 0, 0]
def lowT (l : Lt) : Thing := .sl l ⟨0, 0, 0, 0⟩ ⟨0, 1, 0, 0⟩
def sumS : Sent := [⟨1, flat, [lowT .a]⟩, ⟨1, flat, [lowT .b]⟩, ⟨-1, flat, [lowT .c]⟩, ⟨-1, [0, 0, 0, 1, 0, 0], [.mk]⟩]
def copyS : Sent := [⟨1, flat, [lowT .a]⟩, ⟨-1, flat, [lowT .c]⟩]
def timesN {β : Type} (ps : List β) (s : Sent := []) : Part β := .rounds ⟨0, 1, 0⟩ s ps
def sumT : Tell := [.row (.mark 0), timesN [.row (.two .sum (cl .c 0 1) (cl .a 0 1) (cl .b 0 1))] sumS] ++ markTo 0 ++ signsT ++
  [.row (.two .odd (cl .s 3) (cl .s) (cl .s 2)), .row (.two .odd (cl .s 4) (cl .s 1) (cl .s 2)), .row (.two .both (cl .m 1) (cl .s 3) (cl .s 4))] ++ endsT 0 1
def noMarks : List P2 := [.row (.set (cl .m) 0), .row (.set (cl .m 1) 0)]
def twosT (o : Two) : Tell := [timesN [.row (.two o (cl .c 0 1) (cl .a 0 1) (cl .b 0 1))]] ++ noMarks ++ endsT 0 1
inductive Sh where
  | left | right | down | roll
  deriving DecidableEq
def Sh.str : Sh → Str
  | .left => "left" | .right => "right" | .down => "down" | .roll => "roll"
def copiedT : List P2 := [timesN [.row (.one .move (cl .c 0 1) (cl .a 0 1))] copyS]
def highest : RowI := .one .twice (cl .t) (cl .c (-1) 0 0 1)
def aheadT : Sh → P1
  | .down => .row highest
  | .roll => .row highest
  | _ => .row (.mark 0)
def onePlace : Sh → P1
  | .left => timesN [.one .twice (cl .c 0 0 1) (cl .c 0 0 1)]
  | .roll => timesN [.one .twice (cl .c 0 0 1) (cl .c 0 0 1)]
  | _ => timesN [.one .half (cl .c (-1) 0 (-1) 1) (cl .c (-1) 0 (-1) 1)]
def shiftT (k : Sh) (s : Int) : Tell := copiedT ++ [.row (.mark 0), .rounds ⟨s, 0, 0⟩ [] [aheadT k, onePlace k]] ++ (match k with
  | .roll => noMarks ++ endsT 0 1
  | _ => markTo 0 ++ [.row (.set (cl .m 1) 0)] ++ endsT 0 1)
inductive Deed where
  | sum
  | both
  | any
  | shift (k : Sh) (s : Int)
def Deed.d : Deed → D
  | .sum => .t [.s "sum"]
  | .both => .t [.s "both"]
  | .any => .t [.s "any"]
  | .shift k s => .t [.s k.str, .i s]
def Deed.ok : Deed → Prop
  | .shift _ s => 0 ≤ s ∧ s ≤ 100
  | _ => True
def Deed.tell : Deed → Tell
  | .sum => sumT
  | .both => twosT .both
  | .any => twosT .any
  | .shift k s => shiftT k s
end Ww

set_option Elab.async false
set_option linter.all false
set_option maxRecDepth 100000
set_option maxHeartbeats 4000000
/-! W0: the text by places, the facts that are asked of the top (printed by gen0.py). -/
namespace Ww
open PySem L2
def topS (i : Nat) : Stmt := PySem.Challenge.pw_widewords_k28_whole_shifts_and_sums.main.body.getD i (.Pass ⟨0, 0, 0, 0⟩)
abbrev s_cell : Stmt := topS 11
def d_cell : He.DefD := ⟨("cell", none), "cell", "cell", defArgs s_cell, defBody s_cell, defScope s_cell, [.int 0, .int 0, .int 0, .int 0], []⟩
abbrev s_do : Stmt := topS 12
def d_do : He.DefD := ⟨("do", none), "do", "do", defArgs s_do, defBody s_do, defScope s_do, [], []⟩
abbrev s_times_n : Stmt := topS 13
def d_times_n : He.DefD := ⟨("times_n", none), "times_n", "times_n", defArgs s_times_n, defBody s_times_n, defScope s_times_n, [.non], []⟩
abbrev s_mark_to : Stmt := topS 15
def d_mark_to : He.DefD := ⟨("mark_to", none), "mark_to", "mark_to", defArgs s_mark_to, defBody s_mark_to, defScope s_mark_to, [], []⟩
abbrev s_bare_mark_to : Stmt := topS 16
def d_bare_mark_to : He.DefD := ⟨("bare_mark_to", none), "bare_mark_to", "bare_mark_to", defArgs s_bare_mark_to, defBody s_bare_mark_to, defScope s_bare_mark_to, [], []⟩
abbrev s_ends : Stmt := topS 17
def d_ends : He.DefD := ⟨("ends", none), "ends", "ends", defArgs s_ends, defBody s_ends, defScope s_ends, [], []⟩
abbrev s_lowest : Stmt := topS 22
def d_lowest : He.DefD := ⟨("lowest", none), "lowest", "lowest", defArgs s_lowest, defBody s_lowest, defScope s_lowest, [], []⟩
abbrev s_signs_to : Stmt := topS 23
def d_signs_to : He.DefD := ⟨("signs_to", none), "signs_to", "signs_to", defArgs s_signs_to, defBody s_signs_to, defScope s_signs_to, [], []⟩
abbrev s_sum_parts : Stmt := topS 24
def d_sum_parts : He.DefD := ⟨("sum_parts", none), "sum_parts", "sum_parts", defArgs s_sum_parts, defBody s_sum_parts, defScope s_sum_parts, [], []⟩
abbrev s_no_marks : Stmt := topS 30
def d_no_marks : He.DefD := ⟨("no_marks", none), "no_marks", "no_marks", defArgs s_no_marks, defBody s_no_marks, defScope s_no_marks, [], []⟩
abbrev s_twos_parts : Stmt := topS 31
def d_twos_parts : He.DefD := ⟨("twos_parts", none), "twos_parts", "twos_parts", defArgs s_twos_parts, defBody s_twos_parts, defScope s_twos_parts, [], []⟩
abbrev s_copied : Stmt := topS 80
def d_copied : He.DefD := ⟨("copied", none), "copied", "copied", defArgs s_copied, defBody s_copied, defScope s_copied, [], []⟩
abbrev s_ahead_of_round : Stmt := topS 81
def d_ahead_of_round : He.DefD := ⟨("ahead_of_round", none), "ahead_of_round", "ahead_of_round", defArgs s_ahead_of_round, defBody s_ahead_of_round, defScope s_ahead_of_round, [], []⟩
abbrev s_one_place : Stmt := topS 82
def d_one_place : He.DefD := ⟨("one_place", none), "one_place", "one_place", defArgs s_one_place, defBody s_one_place, defScope s_one_place, [], []⟩
abbrev s_shift_parts : Stmt := topS 83
def d_shift_parts : He.DefD := ⟨("shift_parts", none), "shift_parts", "shift_parts", defArgs s_shift_parts, defBody s_shift_parts, defScope s_shift_parts, [], []⟩
abbrev s_is_whole : Stmt := topS 69
def d_is_whole : He.DefD := ⟨("is_whole", none), "is_whole", "is_whole", defArgs s_is_whole, defBody s_is_whole, defScope s_is_whole, [], []⟩
abbrev s_is_letter : Stmt := topS 70
def d_is_letter : He.DefD := ⟨("is_letter", none), "is_letter", "is_letter", defArgs s_is_letter, defBody s_is_letter, defScope s_is_letter, [], []⟩
abbrev s_is_place : Stmt := topS 71
def d_is_place : He.DefD := ⟨("is_place", none), "is_place", "is_place", defArgs s_is_place, defBody s_is_place, defScope s_is_place, [], []⟩
abbrev s_are_numbers : Stmt := topS 72
def d_are_numbers : He.DefD := ⟨("are_numbers", none), "are_numbers", "are_numbers", defArgs s_are_numbers, defBody s_are_numbers, defScope s_are_numbers, [], []⟩
abbrev s_is_index : Stmt := topS 73
def d_is_index : He.DefD := ⟨("is_index", none), "is_index", "is_index", defArgs s_is_index, defBody s_is_index, defScope s_is_index, [], []⟩
abbrev s_is_cell : Stmt := topS 74
def d_is_cell : He.DefD := ⟨("is_cell", none), "is_cell", "is_cell", defArgs s_is_cell, defBody s_is_cell, defScope s_is_cell, [], []⟩
abbrev s_is_digit : Stmt := topS 75
def d_is_digit : He.DefD := ⟨("is_digit", none), "is_digit", "is_digit", defArgs s_is_digit, defBody s_is_digit, defScope s_is_digit, [], []⟩
abbrev s_is_row_by : Stmt := topS 76
def d_is_row_by : He.DefD := ⟨("is_row_by", none), "is_row_by", "is_row_by", defArgs s_is_row_by, defBody s_is_row_by, defScope s_is_row_by, [], []⟩
abbrev s_is_row : Stmt := topS 77
def d_is_row : He.DefD := ⟨("is_row", none), "is_row", "is_row", defArgs s_is_row, defBody s_is_row, defScope s_is_row, [], []⟩
abbrev s_is_within : Stmt := topS 96
def d_is_within : He.DefD := ⟨("is_within", none), "is_within", "is_within", defArgs s_is_within, defBody s_is_within, defScope s_is_within, [], []⟩
abbrev s_is_deed : Stmt := topS 98
def d_is_deed : He.DefD := ⟨("is_deed", none), "is_deed", "is_deed", defArgs s_is_deed, defBody s_is_deed, defScope s_is_deed, [], []⟩
abbrev s_check_deed : Stmt := topS 99
def d_check_deed : He.DefD := ⟨("check_deed", none), "check_deed", "check_deed", defArgs s_check_deed, defBody s_check_deed, defScope s_check_deed, [], []⟩
abbrev s_telling : Stmt := topS 100
def d_telling : He.DefD := ⟨("telling", none), "telling", "telling", defArgs s_telling, defBody s_telling, defScope s_telling, [], []⟩
abbrev s_two_to : Stmt := topS 104
def d_two_to : He.DefD := ⟨("two_to", none), "two_to", "two_to", defArgs s_two_to, defBody s_two_to, defScope s_two_to, [], []⟩
abbrev s_words_by : Stmt := topS 105
def d_words_by : He.DefD := ⟨("words_by", none), "words_by", "words_by", defArgs s_words_by, defBody s_words_by, defScope s_words_by, [], []⟩
abbrev s_words_of : Stmt := topS 106
def d_words_of : He.DefD := ⟨("words_of", none), "words_of", "words_of", defArgs s_words_of, defBody s_words_of, defScope s_words_of, [], []⟩
abbrev s_is_thing : Stmt := topS 110
def d_is_thing : He.DefD := ⟨("is_thing", none), "is_thing", "is_thing", defArgs s_is_thing, defBody s_is_thing, defScope s_is_thing, [], []⟩
abbrev s_is_term : Stmt := topS 111
def d_is_term : He.DefD := ⟨("is_term", none), "is_term", "is_term", defArgs s_is_term, defBody s_is_term, defScope s_is_term, [], []⟩
abbrev s_is_sentence : Stmt := topS 112
def d_is_sentence : He.DefD := ⟨("is_sentence", none), "is_sentence", "is_sentence", defArgs s_is_sentence, defBody s_is_sentence, defScope s_is_sentence, [], []⟩
abbrev s_is_row_part : Stmt := topS 115
def d_is_row_part : He.DefD := ⟨("is_row_part", none), "is_row_part", "is_row_part", defArgs s_is_row_part, defBody s_is_row_part, defScope s_is_row_part, [], []⟩
abbrev s_are_rounds : Stmt := topS 116
def d_are_rounds : He.DefD := ⟨("are_rounds", none), "are_rounds", "are_rounds", defArgs s_are_rounds, defBody s_are_rounds, defScope s_are_rounds, [], []⟩
abbrev s_is_inner_part : Stmt := topS 117
def d_is_inner_part : He.DefD := ⟨("is_inner_part", none), "is_inner_part", "is_inner_part", defArgs s_is_inner_part, defBody s_is_inner_part, defScope s_is_inner_part, [], []⟩
abbrev s_is_part : Stmt := topS 118
def d_is_part : He.DefD := ⟨("is_part", none), "is_part", "is_part", defArgs s_is_part, defBody s_is_part, defScope s_is_part, [], []⟩
abbrev s_is_telling : Stmt := topS 119
def d_is_telling : He.DefD := ⟨("is_telling", none), "is_telling", "is_telling", defArgs s_is_telling, defBody s_is_telling, defScope s_is_telling, [], []⟩
abbrev s_place_of : Stmt := topS 120
def d_place_of : He.DefD := ⟨("place_of", none), "place_of", "place_of", defArgs s_place_of, defBody s_place_of, defScope s_place_of, [], []⟩
abbrev s_count_of : Stmt := topS 121
def d_count_of : He.DefD := ⟨("count_of", none), "count_of", "count_of", defArgs s_count_of, defBody s_count_of, defScope s_count_of, [], []⟩
abbrev s_plain_row : Stmt := topS 122
def d_plain_row : He.DefD := ⟨("plain_row", none), "plain_row", "plain_row", defArgs s_plain_row, defBody s_plain_row, defScope s_plain_row, [], []⟩
abbrev s_unrolled : Stmt := topS 124
def d_unrolled : He.DefD := ⟨("unrolled", none), "unrolled", "unrolled", defArgs s_unrolled, defBody s_unrolled, defScope s_unrolled, [], []⟩
abbrev s_checked : Stmt := topS 128
def d_checked : He.DefD := ⟨("checked", none), "checked", "checked", defArgs s_checked, defBody s_checked, defScope s_checked, [], []⟩
abbrev s_begun : Stmt := topS 132
def d_begun : He.DefD := ⟨("begun", none), "begun", "begun", defArgs s_begun, defBody s_begun, defScope s_begun, [], []⟩
abbrev s_lengths_of : Stmt := topS 133
def d_lengths_of : He.DefD := ⟨("lengths_of", none), "lengths_of", "lengths_of", defArgs s_lengths_of, defBody s_lengths_of, defScope s_lengths_of, [], []⟩
abbrev s_words_at : Stmt := topS 134
def d_words_at : He.DefD := ⟨("words_at", none), "words_at", "words_at", defArgs s_words_at, defBody s_words_at, defScope s_words_at, [], []⟩
abbrev s_ran : Stmt := topS 135
def d_ran : He.DefD := ⟨("ran", none), "ran", "ran", defArgs s_ran, defBody s_ran, defScope s_ran, [], []⟩
abbrev s_law_fresh : Stmt := topS 137
def d_law_fresh : He.DefD := ⟨("_law_fresh", none), "_law_fresh", "_law_fresh", defArgs s_law_fresh, defBody s_law_fresh, defScope s_law_fresh, [], []⟩
abbrev s_law_mixed : Stmt := topS 138
def d_law_mixed : He.DefD := ⟨("_law_mixed", none), "_law_mixed", "_law_mixed", defArgs s_law_mixed, defBody s_law_mixed, defScope s_law_mixed, [], []⟩
abbrev s_law_fill : Stmt := topS 139
def d_law_fill : He.DefD := ⟨("_law_fill", none), "_law_fill", "_law_fill", defArgs s_law_fill, defBody s_law_fill, defScope s_law_fill, [], []⟩
abbrev s_law_take : Stmt := topS 140
def d_law_take : He.DefD := ⟨("_law_take", none), "_law_take", "_law_take", defArgs s_law_take, defBody s_law_take, defScope s_law_take, [], []⟩
abbrev s_law_sizes : Stmt := topS 141
def d_law_sizes : He.DefD := ⟨("_law_sizes", none), "_law_sizes", "_law_sizes", defArgs s_law_sizes, defBody s_law_sizes, defScope s_law_sizes, [], []⟩
abbrev s_law_worth : Stmt := topS 142
def d_law_worth : He.DefD := ⟨("_law_worth", none), "_law_worth", "_law_worth", defArgs s_law_worth, defBody s_law_worth, defScope s_law_worth, [], []⟩
abbrev s_law_two_to : Stmt := topS 143
def d_law_two_to : He.DefD := ⟨("_law_two_to", none), "_law_two_to", "_law_two_to", defArgs s_law_two_to, defBody s_law_two_to, defScope s_law_two_to, [], []⟩
abbrev s_law_told : Stmt := topS 145
def d_law_told : He.DefD := ⟨("_law_told", none), "_law_told", "_law_told", defArgs s_law_told, defBody s_law_told, defScope s_law_told, [], []⟩
abbrev s_law : Stmt := topS 146
def d_law : He.DefD := ⟨("law", none), "law", "law", defArgs s_law, defBody s_law, defScope s_law, [], []⟩
abbrev s_M_init : Stmt := inClass (topS 102) 0
def d_M_init : He.DefD := ⟨("Machine", some "__init__"), "__init__", "Machine.__init__", defArgs s_M_init, defBody s_M_init, defScope s_M_init, [], []⟩
abbrev s_M_check_cell : Stmt := inClass (topS 102) 1
def d_M_check_cell : He.DefD := ⟨("Machine", some "check_cell"), "check_cell", "Machine.check_cell", defArgs s_M_check_cell, defBody s_M_check_cell, defScope s_M_check_cell, [], []⟩
abbrev s_M_put : Stmt := inClass (topS 102) 2
def d_M_put : He.DefD := ⟨("Machine", some "put"), "put", "Machine.put", defArgs s_M_put, defBody s_M_put, defScope s_M_put, [], []⟩
abbrev s_M_word : Stmt := inClass (topS 102) 3
def d_M_word : He.DefD := ⟨("Machine", some "word"), "word", "Machine.word", defArgs s_M_word, defBody s_M_word, defScope s_M_word, [], []⟩
abbrev s_M_take : Stmt := inClass (topS 102) 5
def d_M_take : He.DefD := ⟨("Machine", some "take"), "take", "Machine.take", defArgs s_M_take, defBody s_M_take, defScope s_M_take, [], []⟩
abbrev s_M_put_split : Stmt := inClass (topS 102) 6
def d_M_put_split : He.DefD := ⟨("Machine", some "put_split"), "put_split", "Machine.put_split", defArgs s_M_put_split, defBody s_M_put_split, defScope s_M_put_split, [], []⟩
abbrev s_M_do_simple : Stmt := inClass (topS 102) 7
def d_M_do_simple : He.DefD := ⟨("Machine", some "do_simple"), "do_simple", "Machine.do_simple", defArgs s_M_do_simple, defBody s_M_do_simple, defScope s_M_do_simple, [], []⟩
abbrev s_M_do_double : Stmt := inClass (topS 102) 8
def d_M_do_double : He.DefD := ⟨("Machine", some "do_double"), "do_double", "Machine.do_double", defArgs s_M_do_double, defBody s_M_do_double, defScope s_M_do_double, [], []⟩
abbrev s_M_go : Stmt := inClass (topS 102) 9
def d_M_go : He.DefD := ⟨("Machine", some "go"), "go", "Machine.go", defArgs s_M_go, defBody s_M_go, defScope s_M_go, [], []⟩
abbrev s_M_run : Stmt := inClass (topS 102) 11
def d_M_run : He.DefD := ⟨("Machine", some "run"), "run", "Machine.run", defArgs s_M_run, defBody s_M_run, defScope s_M_run, [], []⟩
abbrev s_U_init : Stmt := inClass (topS 123) 0
def d_U_init : He.DefD := ⟨("Unroller", some "__init__"), "__init__", "Unroller.__init__", defArgs s_U_init, defBody s_U_init, defScope s_U_init, [], []⟩
abbrev s_U_put_row : Stmt := inClass (topS 123) 1
def d_U_put_row : He.DefD := ⟨("Unroller", some "put_row"), "put_row", "Unroller.put_row", defArgs s_U_put_row, defBody s_U_put_row, defScope s_U_put_row, [], []⟩
abbrev s_U_begin_round : Stmt := inClass (topS 123) 2
def d_U_begin_round : He.DefD := ⟨("Unroller", some "begin_round"), "begin_round", "Unroller.begin_round", defArgs s_U_begin_round, defBody s_U_begin_round, defScope s_U_begin_round, [], []⟩
abbrev s_U_go_inner : Stmt := inClass (topS 123) 3
def d_U_go_inner : He.DefD := ⟨("Unroller", some "go_inner"), "go_inner", "Unroller.go_inner", defArgs s_U_go_inner, defBody s_U_go_inner, defScope s_U_go_inner, [], []⟩
abbrev s_U_go : Stmt := inClass (topS 123) 4
def d_U_go : He.DefD := ⟨("Unroller", some "go"), "go", "Unroller.go", defArgs s_U_go, defBody s_U_go, defScope s_U_go, [], []⟩
def fns : List He.DefD := [d_cell, d_do, d_times_n, d_mark_to, d_bare_mark_to, d_ends, d_lowest, d_signs_to, d_sum_parts, d_no_marks, d_twos_parts, d_copied, d_ahead_of_round, d_one_place, d_shift_parts, d_is_whole, d_is_letter, d_is_place, d_are_numbers, d_is_index, d_is_cell, d_is_digit, d_is_row_by, d_is_row, d_is_within, d_is_deed, d_check_deed, d_telling, d_two_to, d_words_by, d_words_of, d_is_thing, d_is_term, d_is_sentence, d_is_row_part, d_are_rounds, d_is_inner_part, d_is_part, d_is_telling, d_place_of, d_count_of, d_plain_row, d_unrolled, d_checked, d_begun, d_lengths_of, d_words_at, d_ran, d_law_fresh, d_law_mixed, d_law_fill, d_law_take, d_law_sizes, d_law_worth, d_law_two_to, d_law_told, d_law, d_M_init, d_M_check_cell, d_M_put, d_M_word, d_M_take, d_M_put_split, d_M_do_simple, d_M_do_double, d_M_go, d_M_run, d_U_init, d_U_put_row, d_U_begin_round, d_U_go_inner, d_U_go]
def fas : List He.Fa := [.glo "cell", .glo "do", .glo "times_n", .glo "mark_to", .glo "bare_mark_to", .glo "ends", .glo "lowest", .glo "signs_to", .glo "sum_parts", .glo "no_marks", .glo "twos_parts", .glo "copied", .glo "ahead_of_round", .glo "one_place", .glo "shift_parts", .glo "is_whole", .glo "is_letter", .glo "is_place", .glo "are_numbers", .glo "is_index", .glo "is_cell", .glo "is_digit", .glo "is_row_by", .glo "is_row", .glo "is_within", .glo "is_deed", .glo "check_deed", .glo "telling", .glo "two_to", .glo "words_by", .glo "words_of", .glo "is_thing", .glo "is_term", .glo "is_sentence", .glo "is_row_part", .glo "are_rounds", .glo "is_inner_part", .glo "is_part", .glo "is_telling", .glo "place_of", .glo "count_of", .glo "plain_row", .glo "unrolled", .glo "checked", .glo "begun", .glo "lengths_of", .glo "words_at", .glo "ran", .glo "_law_fresh", .glo "_law_mixed", .glo "_law_fill", .glo "_law_take", .glo "_law_sizes", .glo "_law_worth", .glo "_law_two_to", .glo "_law_told", .glo "law", .glo "Machine", .glo "Unroller", .glo "TAKES", .glo "SHIFTS", .glo "TWOS", .glo "PLAIN", .free "len", .free "all", .free "isinstance", .free "int", .free "str", .free "bool", .free "tuple", .free "abs", .free "max", .free "range", .free "enumerate", .int "FURTHEST" 200, .int "MOST_TERMS" 20, .int "MOST_FACTOR" 10000000000000000000000000000000000000000, .int "MOST" 4000, .str "LETTERS" "abcdefghijklmnopqrstuvwxyz", .cls "Machine", .mkr "Machine", .noat "Machine" "wide", .noat "Machine" "held", .noat "Machine" "flag", .meth "Machine" "check_cell", .meth "Machine" "put", .meth "Machine" "word", .meth "Machine" "take", .meth "Machine" "put_split", .meth "Machine" "do_simple", .meth "Machine" "do_double", .meth "Machine" "go", .meth "Machine" "run", .cls "Unroller", .mkr "Unroller", .noat "Unroller" "w", .noat "Unroller" "n", .noat "Unroller" "rows", .noat "Unroller" "rounds", .meth "Unroller" "put_row", .meth "Unroller" "begin_round", .meth "Unroller" "go_inner", .meth "Unroller" "go"]
def k_NAUGHT : D := .t [.v (.str "z"), .t [.v (.int 0), .v (.int 0), .v (.int 0), .v (.int 0)]]
def k_FLAT : D := .t [.v (.int 0), .v (.int 0), .v (.int 0), .v (.int 0), .v (.int 0), .v (.int 0)]
def k_SO_FAR : D := .t [.v (.int 0), .v (.int 0), .v (.int 0), .v (.int 1), .v (.int 0), .v (.int 0)]
def k_MARK : D := .t [.v (.str "mark")]
def k_HIGHEST : D := .t [.v (.str "twice"), .t [.v (.str "t"), .t [.v (.int 0), .v (.int 0), .v (.int 0), .v (.int 0)]], .t [.v (.str "c"), .t [.v (.int (-1)), .v (.int 0), .v (.int 0), .v (.int 1)]]]
def k_OF_TWO : D := .t [.v (.str "sum"), .v (.str "difference"), .v (.str "compare"), .v (.str "both"), .v (.str "any"), .v (.str "odd"), .v (.str "product"), .v (.str "signed product")]
def k_QUOTIENTS : D := .t [.v (.str "quotient"), .v (.str "signed quotient")]
def k_TWICE_WIDE : D := .t [.v (.str "product"), .v (.str "signed product")]
def k_WITH_REST : D := .t [.v (.str "quotient"), .v (.str "signed quotient")]
def kons : List (Str × D) := [("NAUGHT", k_NAUGHT), ("FLAT", k_FLAT), ("SO_FAR", k_SO_FAR), ("MARK", k_MARK), ("HIGHEST", k_HIGHEST), ("OF_TWO", k_OF_TWO), ("QUOTIENTS", k_QUOTIENTS), ("TWICE_WIDE", k_TWICE_WIDE), ("WITH_REST", k_WITH_REST)]
def tabs : List He.Tab := [(fun K => He.ga K "TAKES", ["move", "bare", "twice", "half", "sum", "less", "both", "any", "odd", "times"]), (fun K => He.ga K "SHIFTS", ["left", "right", "down", "roll"]), (fun K => He.ga K "TWOS", ["both", "any", "odd"]), (fun K => He.ga K "PLAIN", ["sum", "difference", "turned", "compare", "bare", "product", "signed product", "quotient", "signed quotient"])]
def v_TAKES : List (Str × He.Dv) := [("move", .int 2), ("bare", .int 2), ("twice", .int 2), ("half", .int 2), ("sum", .int 3), ("less", .int 3), ("both", .int 3), ("any", .int 3), ("odd", .int 3), ("times", .int 4)]
def v_SHIFTS : List (Str × He.Dv) := [("left", .int 1), ("right", .int 1), ("down", .int 1), ("roll", .int 1)]
def v_TWOS : List (Str × He.Dv) := [("both", .int 2), ("any", .int 2), ("odd", .int 2)]
def v_PLAIN : List (Str × He.Dv) := [("sum", .glo "sum_parts")]

/-! ### constants of the module as data -/
def all2 (p : D → Value → Bool) : List D → List Value → Bool
  | [], [] => true
  | d :: ds, u :: us => p d u && all2 p ds us
  | _, _ => false
def repB (K : PySem.W.Frag) : Nat → D → Value → Bool
  | 0, _, _ => false
  | n + 1, d, u => match d with
    | .v x => He.relB x u
    | .t ds => match u with
      | .ref a => (match K.lookup a with
        | some ⟨.type c, _, .seq its _, _⟩ => decide (c = "tuple") && (decide (its.size ≤ sizeLine) && all2 (repB K n) ds its.toList)
        | _ => false)
      | _ => false
theorem all2_ok {K : PySem.W.Frag} {p : D → Value → Bool} (h : ∀ d u, p d u = true → ∃ v, RelV v u ∧ ∀ H, Rep K H v d) : ∀ {ds : List D} {us : List Value}, all2 p ds us = true → ∃ vs, Vals vs us ∧ ∀ H, RepL K H vs ds
  | [], [], _ => ⟨[], .nil, fun _ => .nil⟩
  | [], _ :: _, e => by cases e
  | _ :: _, [], e => by cases e
  | d :: ds, u :: us, e => by
    obtain ⟨e1, e2⟩ := He.ba (show (p d u && all2 p ds us) = true from e)
    obtain ⟨v, r1, r2⟩ := h d u e1
    obtain ⟨vs, s1, s2⟩ := all2_ok h e2
    exact ⟨v :: vs, .cons r1 s1, fun H => .cons (r2 H) (s2 H)⟩
theorem repB_ok {K : PySem.W.Frag} : ∀ (n : Nat) (d : D) (u : Value), repB K n d u = true → ∃ v, RelV v u ∧ ∀ H, Rep K H v d
  | 0, _, _, e => by cases e
  | n + 1, .v x, u, e => ⟨x, He.relB_ok e, fun H => .v x⟩
  | n + 1, .t ds, u, e => by
    cases u with
    | ref a =>
      have e1 : (match K.lookup a with
        | some ⟨.type c, _, .seq its _, _⟩ => decide (c = "tuple") && (decide (its.size ≤ sizeLine) && all2 (repB K n) ds its.toList)
        | _ => false) = true := e
      cases q : K.lookup a with
      | none =>
        rw [q] at e1
        cases e1
      | some o =>
        obtain ⟨oc, od, dt, osl⟩ := o
        rw [q] at e1
        cases oc with
        | type c =>
          cases dt with
          | seq its m =>
            obtain ⟨h1, h2⟩ := He.ba (show (decide (c = "tuple") && (decide (its.size ≤ sizeLine) && all2 (repB K n) ds its.toList)) = true from e1)
            obtain ⟨h3, h4⟩ := He.ba h2
            obtain ⟨vs, r1, r2⟩ := all2_ok (fun d u => repB_ok n d u) h4
            exact ⟨.ref a, rfl, fun H => .t (.inr ⟨_, its, m, q, congrArg Value.type (of_decide_eq_true h1), rfl, of_decide_eq_true h3, r1⟩) (r2 H)⟩
          | _ => cases e1
        | _ => cases dt <;> cases e1
    | _ => cases e
def konB (K : PySem.W.Frag) (x : Str) (d : D) : Bool := match PySem.W.nsIn K mainGlobals x with
  | some (some (.ref a)) => decide (a = He.ga K x) && repB K 5 d (.ref a)
  | _ => false
theorem konB_ok {K : PySem.W.Frag} {x : Str} {d : D} (e : konB K x d = true) : PySem.W.nsIn K mainGlobals x = some (some (.ref (He.ga K x))) ∧ ∀ H, Rep K H (.ref (He.ga K x)) d := by
  unfold konB at e
  cases q : PySem.W.nsIn K mainGlobals x with
  | none =>
    rw [q] at e
    cases e
  | some o =>
    rw [q] at e
    cases o with
    | none => cases e
    | some u =>
      cases u with
      | ref a =>
        obtain ⟨h1, h2⟩ := He.ba (show (decide (a = He.ga K x) && repB K 5 d (.ref a)) = true from e)
        have h3 : a = He.ga K x := of_decide_eq_true h1
        subst h3
        obtain ⟨v, r1, r2⟩ := repB_ok 5 d _ h2
        have e3 : v = .ref (He.ga K x) := by
          cases v with
          | ref b => cases (show Value.ref (He.ga K x) = Value.ref b from r1); rfl
          | non => cases (show Value.ref (He.ga K x) = Value.none from r1)
          | bl b => cases (show Value.ref (He.ga K x) = Value.bool b from r1)
          | int i => obtain ⟨t, z⟩ := r1; cases z
          | str i => obtain ⟨t, z⟩ := r1; cases z
          | byt i => obtain ⟨t, z⟩ := r1; cases z
          | flt i => obtain ⟨t, z⟩ := r1; cases z
          | ty i => cases (show Value.ref (He.ga K x) = Value.type i from r1)
        subst e3
        exact ⟨rfl, r2⟩
      | _ => cases e
def missB (K : PySem.W.Frag) (x k : Str) : Bool := He.eqO (PySem.W.nsIn K (He.ga K x) k) (some none)
def exB (K : PySem.W.Frag) : Bool := kons.all (fun p => konB K p.1 p.2) && (He.valsB K (He.ga K "TAKES") v_TAKES && (He.valsB K (He.ga K "SHIFTS") v_SHIFTS && (He.valsB K (He.ga K "TWOS") v_TWOS && (He.valsB K (He.ga K "PLAIN") v_PLAIN &&
  (missB K "PLAIN" "both" && (missB K "PLAIN" "any" && missB K "TWOS" "sum"))))))
/-- what is known of the top -/
structure Tx (w : World) (K : PySem.W.Frag) (mg : Str → Option Value) : Prop where
  g : ∀ {x : Str}, Eq (PySem.W.nsIn K mainGlobals x) (some (some (.ref (He.ga K x)))) → mg x = some (.ref (He.ga K x))
  f : ∀ {x : Str}, Eq (PySem.W.nsIn K mainGlobals x) (some none) → mg x = none
  i : ∀ {x : Str} {u : Value}, Eq (PySem.W.nsIn K mainGlobals x) (some (some u)) → mg x = some u
  fact : ∀ {f : He.Fa} (i : Nat), fas[i]? = some f → f.ok K = true
  defn : ∀ {d : He.DefD} (i : Nat), fns[i]? = some d → ∃ fd, FunD K d.name d.qual d.params d.body d.scope (d.dvs K) (d.kws K) (He.fAd K d.at_) fd
  tab : ∀ {t : He.Tab} (i : Nat), tabs[i]? = some t → ∃ es n, KDict K w (t.1 K) es n
  ex : exB K = true
theorem Tx.of {w : World} {K : PySem.W.Frag} {mg : Str → Option Value} {h : Heap} (X : K.In h) (G : h.Ns mainGlobals mg) (c : He.SaysT fas fns tabs w K) (m : exB K = true) : Tx w K mg where
  g := fun e => PySem.W.mg_of X G e
  f := fun e => PySem.W.mg_none_of X G e
  i := fun e => PySem.W.mg_of X G e
  fact := fun i e => c.d.fact i e
  defn := fun i e => c.d.def_ i e
  tab := fun i e => c.tab i e
  ex := m
section
variable {w : World} {K : PySem.W.Frag} {mg : Str → Option Value} (T : Tx w K mg)
include T
theorem Tx.glo (i : Nat) {x : Str} (e : fas[i]? = some (.glo x) := by rfl) : mg x = some (.ref (He.ga K x)) := T.g (He.eqO_ok (T.fact i e))
theorem Tx.free (i : Nat) {x : Str} (e : fas[i]? = some (.free x) := by rfl) : mg x = none := T.f (He.eqO_ok (T.fact i e))
theorem Tx.int (i : Nat) {x : Str} {n : Int} (e : fas[i]? = some (.int x n) := by rfl) : ∃ t, mg x = some (.int n t) := by
  have c2 : (match PySem.W.nsIn K mainGlobals x with
    | some (some (.int j _)) => decide (j = n)
    | _ => false) = true := T.fact i e
  cases e : PySem.W.nsIn K mainGlobals x with
  | none =>
    rw [e] at c2
    cases c2
  | some o =>
    rw [e] at c2
    cases o with
    | none => cases c2
    | some v =>
      cases v with
      | int j t =>
        have ej : j = n := of_decide_eq_true c2
        rw [ej] at e
        exact ⟨t, T.i e⟩
      | _ => cases c2
theorem Tx.str (i : Nat) {x z : Str} (e : fas[i]? = some (.str x z) := by rfl) : ∃ t, mg x = some (.str z t) := by
  have c2 : (match PySem.W.nsIn K mainGlobals x with
    | some (some (.str y _)) => decide (y = z)
    | _ => false) = true := T.fact i e
  cases e : PySem.W.nsIn K mainGlobals x with
  | none =>
    rw [e] at c2
    cases c2
  | some o =>
    rw [e] at c2
    cases o with
    | none => cases c2
    | some v =>
      cases v with
      | str y t =>
        have ej : y = z := of_decide_eq_true c2
        rw [ej] at e
        exact ⟨t, T.i e⟩
      | _ => cases c2
theorem Tx.cls (i : Nat) {x : Str} (e : fas[i]? = some (.cls x) := by rfl) : Cls K (He.ga K x) := He.cls_ok (T.fact i e)
theorem Tx.mkr (i : Nat) {x : Str} (e : fas[i]? = some (.mkr x) := by rfl) : Mk K (He.ga K x) (He.ma K (He.ga K x) "__init__") := He.mkr_ok (T.fact i e)
theorem Tx.noat (i : Nat) {x f : Str} (e : fas[i]? = some (.noat x f) := by rfl) : NoAttr K (He.ga K x) f := He.noat_ok (T.fact i e)
theorem Tx.meth (i : Nat) {x m : Str} (e : fas[i]? = some (.meth x m) := by rfl) : Meth K (He.ga K x) m (He.ma K (He.ga K x) m) := He.meth_ok (T.fact i e)
theorem Tx.kon (i : Nat) {x : Str} {d : D} (e : kons[i]? = some (x, d) := by rfl) : mg x = some (.ref (He.ga K x)) ∧ ∀ H, Rep K H (.ref (He.ga K x)) d := by
  have h1 := (He.ba (show (kons.all (fun p => konB K p.1 p.2) && _) = true from T.ex)).1
  have h2 := konB_ok (List.all_eq_true.mp h1 (x, d) (List.mem_of_getElem? e))
  exact ⟨T.g h2.1, h2.2⟩
theorem Tx.takes {q : Str × He.Dv} (h : q ∈ v_TAKES) : ∃ u, PySem.W.nsIn K (He.ga K "TAKES") q.1 = some (some u) ∧ RelV (q.2.v K) u := by
  have e := T.ex
  simp only [exB, Bool.and_eq_true] at e
  exact He.valsB_ok e.2.1 h
theorem Tx.shifts {q : Str × He.Dv} (h : q ∈ v_SHIFTS) : ∃ u, PySem.W.nsIn K (He.ga K "SHIFTS") q.1 = some (some u) ∧ RelV (q.2.v K) u := by
  have e := T.ex
  simp only [exB, Bool.and_eq_true] at e
  exact He.valsB_ok e.2.2.1 h
theorem Tx.twos {q : Str × He.Dv} (h : q ∈ v_TWOS) : ∃ u, PySem.W.nsIn K (He.ga K "TWOS") q.1 = some (some u) ∧ RelV (q.2.v K) u := by
  have e := T.ex
  simp only [exB, Bool.and_eq_true] at e
  exact He.valsB_ok e.2.2.2.1 h
theorem Tx.plain {q : Str × He.Dv} (h : q ∈ v_PLAIN) : ∃ u, PySem.W.nsIn K (He.ga K "PLAIN") q.1 = some (some u) ∧ RelV (q.2.v K) u := by
  have e := T.ex
  simp only [exB, Bool.and_eq_true] at e
  exact He.valsB_ok e.2.2.2.2.1 h
theorem Tx.miss : PySem.W.nsIn K (He.ga K "PLAIN") "both" = some none ∧ PySem.W.nsIn K (He.ga K "PLAIN") "any" = some none ∧ PySem.W.nsIn K (He.ga K "TWOS") "sum" = some none := by
  have e := T.ex
  simp only [exB, missB, Bool.and_eq_true] at e
  exact ⟨He.eqO_ok e.2.2.2.2.2.1, He.eqO_ok e.2.2.2.2.2.2.1, He.eqO_ok e.2.2.2.2.2.2.2⟩
end
end Ww

set_option Elab.async false
set_option linter.all false
set_option maxRecDepth 100000
set_option maxHeartbeats 0
/-! WHead1: the top's run in the kernel, once for each answer of the world's one row. -/
namespace Ww
open PySem PySem.W PySem.Calls PyProof.Rows L2 HandSHeadRun
abbrev R : PySem.W.OpenRow := PySem.W.OpenLaw.row PySem.Challenge.rw_widewords_k28_whole_shifts_and_sums
/-- the objects that are looked at, by their places behind the top -/
def asL : List Addr := [3, 126, 125, 119, 133, 132, 141, 140, 134, 150, 149, 157, 156, 164, 163, 174, 173, 181, 180, 188, 187, 230, 229, 237, 236, 480, 479, 487, 486, 494, 493, 501, 500, 416, 415, 423, 422, 430, 429, 435, 434, 442, 441, 449, 448, 456, 455, 461, 460, 468, 467, 547, 546, 559, 558, 566, 565, 573, 572, 676, 675, 683, 682, 690, 689, 697, 696, 702, 701, 707, 706, 714, 713, 719, 718, 726, 725, 733, 732, 738, 737, 745, 744, 752, 751, 759, 758, 815, 814, 824, 823, 833, 832, 840, 839, 845, 844, 852, 851, 859, 858, 866, 865, 873, 872, 880, 879, 887, 886, 894, 893, 901, 900, 915, 914, 922, 921, 409, 537, 539, 540, 143, 142, 165, 166, 167, 473, 470, 472, 469, 471, 816, 817, 825, 826, 665, 664, 587, 586, 594, 593, 601, 600, 608, 607, 622, 621, 629, 628, 636, 635, 643, 642, 650, 649, 662, 661, 804, 803, 773, 772, 780, 779, 787, 786, 794, 793, 801, 800]
def frL (g : Addr → Option Obj) : PySem.W.Frag := He.frG g asL
abbrev AlZ : Type := He.AlT × Bool
def obsZ (g : Addr → Option Obj) : AlZ := (He.obsT fas fns tabs (frL g), exB (frL g))
def valZ (w : World) : AlZ := (He.valT fns tabs w, true)
def hk : PySem.W.Hook where
  α := AlZ
  obs := fun s => obsZ s.heap.get?
  val := valZ
  says := fun w h => ∃ K : PySem.W.Frag, K.In h ∧ He.SaysT fas fns tabs w K ∧ exB K = true
  of := fun w s e => ⟨_, He.frG_in, congrArg (fun z : AlZ => z.1) e, congrArg (fun z : AlZ => z.2) e⟩
  keeps := fun _ _ _ ⟨K, hK, c⟩ k => ⟨K, PySem.W.Frag.In.keeps hK k, c⟩
def ob (s : PySem.W.SharedT) : AlZ := obsZ (HandSHeadRun.getT s)
theorem ob_eq (s : PySem.W.SharedT) : ob s = hk.obs s.abs := by
  show obsZ _ = obsZ _
  rw [show HandSHeadRun.getT s = s.abs.heap.get? from funext fun a => HandSHeadRun.getT_eq s a]
def names : List PySem.Str := (R.prog.main.scope.names.map (·.1)).filter fun x => x != "law"
noncomputable abbrev endS (w : World) (os : OsState) : Option SharedT := endF (stepQ (denQ tabQ) R.prog w) 7000 R.prog w os
abbrev wB (w : World) (b : Bool) : World := w.withFollow "special-get-raises" b
noncomputable def lookA (w : World) (s : SharedT) := (looksF R.prog (boot_heap w.params) s.abs, seenQ (view R.prog [146]) names (importedModules R.prog.main.body) (fun s => xlAt (view R.prog [146]) [] s && recOk R.toRowW.records s) s.abs)
theorem runA_f (w : World) (os : OsState) : (endS (wB w false) os).map (lookA (wB w false)) = some (true, openGood (view R.prog [146]) names) := by
  kernel_rfl
theorem runA_t (w : World) (os : OsState) : (endS (wB w true) os).map (lookA (wB w true)) = some (true, openGood (view R.prog [146]) names) := by
  kernel_rfl
theorem runC_f (w : World) (os : OsState) : (endS (wB w false) os).map ob = some (valZ (wB w false)) := by
  kernel_rfl
theorem runC_t (w : World) (os : OsState) : (endS (wB w true) os).map ob = some (valZ (wB w true)) := by
  kernel_rfl
end Ww

set_option Elab.async false
set_option linter.all false
set_option maxRecDepth 100000
set_option maxHeartbeats 0
/-! WHead2: the row from the law's call over the facts. -/
namespace Ww
open PySem PySem.W PySem.Calls PyProof.Rows L2 HandSHeadRun
theorem run_of {w : World} {os : OsState} (h1 : (endS w os).map (lookA w) = some (true, openGood (view R.prog [146]) names)) (h2 : (endS w os).map ob = some (valZ w)) :
    (endS w os).map (fun s => (looksF R.prog (boot_heap w.params) s.abs, seenQ (view R.prog [146]) names (importedModules R.prog.main.body) (fun s => xlAt (view R.prog [146]) [] s && recOk R.toRowW.records s) s.abs, ob s)) = some (true, openGood (view R.prog [146]) names, valZ w) := by
  obtain ⟨s, e, e1⟩ := Option.map_eq_some_iff.mp h1
  rw [e] at h2
  have e2 : ob s = valZ w := Option.some.inj h2
  have e3 : looksF R.prog (boot_heap w.params) s.abs = true := congrArg (fun z => z.1) e1
  have e4 : seenQ (view R.prog [146]) names (importedModules R.prog.main.body) (fun s => xlAt (view R.prog [146]) [] s && recOk R.toRowW.records s) s.abs = openGood (view R.prog [146]) names := congrArg (fun z => z.2) e1
  rw [e]
  have e0 : (looksF R.prog (boot_heap w.params) s.abs, seenQ (view R.prog [146]) names (importedModules R.prog.main.body) (fun s => xlAt (view R.prog [146]) [] s && recOk R.toRowW.records s) s.abs, ob s) = (true, openGood (view R.prog [146]) names, valZ w) := by
    rw [e3, e4, e2]
  exact congrArg some e0
theorem run (w : World) : RunEq R (view R.prog [146]) hk ob 7000 names w :=
  byRow2 "special-get-raises" (P := fun w => RunEq R (view R.prog [146]) hk ob 7000 names w) (fun w os => run_of (runA_f w os) (runC_f w os)) (fun w os => run_of (runA_t w os) (runC_t w os)) w
/-- the row from the law's call over the facts -/
theorem head_of (call : WalkO (view R.prog [146]) names (XL (view R.prog [146]) []) hk.says R.toRowW (topDef R.prog 146) [] fun f vs => PySem.call f vs) : PySem.Challenge.rw_widewords_k28_whole_shifts_and_sums.Holds := by
  w_on; o_law
  refine HandSHeadRun.head_any (r := R) (q := view R.prog [146]) (H := hk) (ob := ob) (M := 7000) (loose := names) (d := topDef R.prog 146) (kwd := []) ob_eq
    (by kernel_rfl) (fun s => by kernel_rfl) run (by kernel_rfl) (by kernel_rfl) (by kernel_rfl) (by rfl) (by first | assumption | decide +kernel) (by decide +kernel) ⟨rfl, rfl, rfl, rfl, rfl, by decide +kernel⟩ ?hw call
  case hw => w_witness2
end Ww

set_option Elab.async false
set_option linter.all false
set_option maxRecDepth 100000
set_option maxHeartbeats 4000000
/-! W5: the makers of tellings (printed from W5.src by gen1.py). -/
namespace Ww
open PySem PySem.Spec PyProof.Rows L2
open C8 (Cal CalAt Met Mak pe_c pe_mk pe_mt pe_mt0)
variable {P : Program} {w : World} {K : PySem.W.Frag} {mg : Str → Option Value} {base : Heap}
abbrev PF (K : PySem.W.Frag) (f : List D → Option D) : Sp := PSp K fun ds r => f ds = some r

theorem sc_cell : FnScope ["letter", "c", "i", "j", "m"] ["letter", "c", "i", "j", "m"] (defScope s_cell) := ⟨rfl, rfl, rfl, by decide +kernel, rfl, by decide +kernel, by decide +kernel⟩
theorem fn_cell (T : Tx w K mg) : ∃ fd, FunD K "cell" "cell" (defArgs s_cell) (defBody s_cell) (defScope s_cell) [.int 0, .int 0, .int 0, .int 0] [] (He.ga K "cell") fd ∧ FnOk P w K mg base CX0 1 (He.ga K "cell") fd ["letter", "c", "i", "j", "m"] (PF K f_cell) := by
  obtain ⟨fd, F⟩ := T.defn (d := d_cell) 0 rfl
  refine ⟨fd, F, F.ok (k := 0) sc_cell (fun vs H Q E h => psp_len (n := 5) ?_ h) (fun cdv A outer s H vs Q E hr h => ⟨_, PSs.nox (pss_one (ps_ret (pe_tup (pa_cons (pv 0) (pa_cons (pe_tup (pa_cons (pv 1) (pa_cons (pv 2) (pa_cons (pv 3) (pa_cons (pv 4) pa_nil))))) pa_nil))))), psp_of (N := ["letter", "c", "i", "j", "m"]) ?_ h⟩)⟩
  · intro ds r h
    match ds, h with
    | [_, _, _, _, _], _ => rfl
  · intro ds r h
    match ds, h with
    | [l, c, i, j, m], h =>
      cases h
      exact rs_is (rs_ret (ev_tup (ea_cons (ev_var rfl) (ea_cons (ev_tup (ea_cons (ev_var rfl) (ea_cons (ev_var rfl) (ea_cons (ev_var rfl) (ea_cons (ev_var rfl) ea_nil))))) ea_nil)))) rfl
theorem cal_cell_1 (T : Tx w K mg) : Cal P w K mg base 1 "cell" (PF K f_cell) [.int 0, .int 0, .int 0, .int 0] := by
  obtain ⟨fd, F, ok⟩ := fn_cell (P := P) (base := base) T
  obtain ⟨ds, r, b⟩ := F.binds1 (ps := ["letter", "c", "i", "j", "m"]) 1 0 (by simp) rfl (fun _ _ _ _ _ _ _ us its hl h2 => match us, its, hl, h2 with | [_], [_, _, _, _], _, _ => ⟨_, rfl, rfl⟩)
  exact ⟨_, fd, _, ds, ok, T.glo 0, F.kp, b, r⟩
theorem kal_cell_i (T : Tx w K mg) : Kal P w K mg base 1 "cell" (PF K f_cell) 1 ["i"] [1] [.int 0, .int 0, .int 0, .int 0] := by
  obtain ⟨fd, F, ok⟩ := fn_cell (P := P) (base := base) T
  obtain ⟨its, b⟩ := FunD.kbinds1 F (ps := ["letter", "c", "i", "j", "m"]) 1 ["i"] [1] (by simp) (fun _ _ _ _ _ _ _ us its ws hl h2 h3 => match us, its, ws, hl, h2, h3 with | [_], [_, _, _, _], [_], _, _, _ => ⟨_, rfl, rfl⟩)
  exact ⟨_, fd, _, its, ok, T.glo 0, F.kp, b⟩
theorem kal_cell_c (T : Tx w K mg) : Kal P w K mg base 1 "cell" (PF K f_cell) 1 ["c"] [0] [.int 0, .int 0, .int 0, .int 0] := by
  obtain ⟨fd, F, ok⟩ := fn_cell (P := P) (base := base) T
  obtain ⟨its, b⟩ := FunD.kbinds1 F (ps := ["letter", "c", "i", "j", "m"]) 1 ["c"] [0] (by simp) (fun _ _ _ _ _ _ _ us its ws hl h2 h3 => match us, its, ws, hl, h2, h3 with | [_], [_, _, _, _], [_], _, _, _ => ⟨_, rfl, rfl⟩)
  exact ⟨_, fd, _, its, ok, T.glo 0, F.kp, b⟩
theorem kal_cell_j (T : Tx w K mg) : Kal P w K mg base 1 "cell" (PF K f_cell) 1 ["j"] [2] [.int 0, .int 0, .int 0, .int 0] := by
  obtain ⟨fd, F, ok⟩ := fn_cell (P := P) (base := base) T
  obtain ⟨its, b⟩ := FunD.kbinds1 F (ps := ["letter", "c", "i", "j", "m"]) 1 ["j"] [2] (by simp) (fun _ _ _ _ _ _ _ us its ws hl h2 h3 => match us, its, ws, hl, h2, h3 with | [_], [_, _, _, _], [_], _, _, _ => ⟨_, rfl, rfl⟩)
  exact ⟨_, fd, _, its, ok, T.glo 0, F.kp, b⟩
theorem kal_cell_cm (T : Tx w K mg) : Kal P w K mg base 1 "cell" (PF K f_cell) 1 ["c", "m"] [0, 3] [.int 0, .int 0, .int 0, .int 0] := by
  obtain ⟨fd, F, ok⟩ := fn_cell (P := P) (base := base) T
  obtain ⟨its, b⟩ := FunD.kbinds1 F (ps := ["letter", "c", "i", "j", "m"]) 1 ["c", "m"] [0, 3] (by simp) (fun _ _ _ _ _ _ _ us its ws hl h2 h3 => match us, its, ws, hl, h2, h3 with | [_], [_, _, _, _], [_, _], _, _, _ => ⟨_, rfl, rfl⟩)
  exact ⟨_, fd, _, its, ok, T.glo 0, F.kp, b⟩
theorem kal_cell_cjm (T : Tx w K mg) : Kal P w K mg base 1 "cell" (PF K f_cell) 1 ["c", "j", "m"] [0, 2, 3] [.int 0, .int 0, .int 0, .int 0] := by
  obtain ⟨fd, F, ok⟩ := fn_cell (P := P) (base := base) T
  obtain ⟨its, b⟩ := FunD.kbinds1 F (ps := ["letter", "c", "i", "j", "m"]) 1 ["c", "j", "m"] [0, 2, 3] (by simp) (fun _ _ _ _ _ _ _ us its ws hl h2 h3 => match us, its, ws, hl, h2, h3 with | [_], [_, _, _, _], [_, _, _], _, _, _ => ⟨_, rfl, rfl⟩)
  exact ⟨_, fd, _, its, ok, T.glo 0, F.kp, b⟩

theorem sc_do : FnScope ["row"] ["row"] (defScope s_do) := ⟨rfl, rfl, rfl, by decide +kernel, rfl, by decide +kernel, by decide +kernel⟩
theorem cal_do (T : Tx w K mg) : Cal P w K mg base 1 "do" (PF K f_do) [] := by
  obtain ⟨fd, F⟩ := T.defn (d := d_do) 1 rfl
  refine ⟨_, fd, ["row"], [], F.ok (k := 0) sc_do (fun vs H Q E h => psp_len (n := 1) ?_ h) (fun cdv A outer s H vs Q E hr h => ⟨_, PSs.nox (pss_one (ps_ret (pe_tup (pa_cons pe_str (pa_cons (pv 0) pa_nil))))), psp_of (N := ["row"]) ?_ h⟩), T.glo 1, F.kp, F.bindsN (fun _ _ _ _ _ _ us hl => match us, hl with | [_], _ => rfl), .nil⟩
  · intro ds r h
    match ds, h with
    | [_], _ => rfl
  · intro ds r h
    match ds, h with
    | [x], h =>
      cases h
      exact rs_is (rs_ret (ev_tup (ea_cons ev_c (ea_cons (ev_var rfl) ea_nil)))) rfl

theorem sc_times_n : FnScope ["parts", "sentence"] ["parts", "sentence"] (defScope s_times_n) := ⟨rfl, rfl, rfl, by decide +kernel, rfl, by decide +kernel, by decide +kernel⟩
theorem fn_times_n (T : Tx w K mg) : ∃ fd, FunD K "times_n" "times_n" (defArgs s_times_n) (defBody s_times_n) (defScope s_times_n) [.non] [] (He.ga K "times_n") fd ∧ FnOk P w K mg base CX0 1 (He.ga K "times_n") fd ["parts", "sentence"] (PF K f_times_n) := by
  obtain ⟨fd, F⟩ := T.defn (d := d_times_n) 2 rfl
  refine ⟨fd, F, F.ok (k := 0) sc_times_n (fun vs H Q E h => psp_len (n := 2) ?_ h) (fun cdv A outer s H vs Q E hr h => ⟨_, PSs.nox (pss_cons (ps_if (pt_cmpR op_isN (pv 1) pe_non (nomark _)) (pss_one (ps_ret (pe_tup (pa_cons pe_str (pa_cons (pe_tup (pa_cons pe_int (pa_cons pe_int (pa_cons pe_int pa_nil)))) (pa_cons (pe_tup pa_nil) (pa_cons (pv 0) pa_nil))))))) pss_nil) (pss_one (ps_ret (pe_tup (pa_cons pe_str (pa_cons (pe_tup (pa_cons pe_int (pa_cons pe_int (pa_cons pe_int pa_nil)))) (pa_cons (pv 1) (pa_cons (pv 0) pa_nil)))))))), psp_of (N := ["parts", "sentence"]) ?_ h⟩)⟩
  · intro ds r h
    match ds, h with
    | [_, .v .non], _ => rfl
    | [_, .t _], _ => rfl
  · intro ds r h
    match ds, h with
    | [p, .v .non], h =>
      cases h
      exact rs_now (rs_ifT (et_is (et_test (ev_isN (ev_var rfl))) rfl) (rs_is (rs_ret (ev_tup (ea_cons ev_c (ea_cons (ev_tup (ea_cons ev_c (ea_cons ev_c (ea_cons ev_c ea_nil)))) (ea_cons (ev_tup ea_nil) (ea_cons (ev_var rfl) ea_nil)))))) rfl))
    | [p, .t s], h =>
      cases h
      exact rs_skip (et_is (et_test (ev_isN' (ev_var rfl))) rfl) (rs_is (rs_ret (ev_tup (ea_cons ev_c (ea_cons (ev_tup (ea_cons ev_c (ea_cons ev_c (ea_cons ev_c ea_nil)))) (ea_cons (ev_var rfl) (ea_cons (ev_var rfl) ea_nil)))))) rfl)
theorem cal_times_n_1 (T : Tx w K mg) : Cal P w K mg base 1 "times_n" (PF K f_times_n) [.non] := by
  obtain ⟨fd, F, ok⟩ := fn_times_n (P := P) (base := base) T
  obtain ⟨ds, r, b⟩ := F.binds1 (ps := ["parts", "sentence"]) 1 0 (by simp) rfl (fun _ _ _ _ _ _ _ us its hl h2 => match us, its, hl, h2 with | [_], [_], _, _ => ⟨_, rfl, rfl⟩)
  exact ⟨_, fd, _, ds, ok, T.glo 2, F.kp, b, r⟩
theorem cal_times_n (T : Tx w K mg) : Cal P w K mg base 1 "times_n" (PF K f_times_n) [] := by
  obtain ⟨fd, F, ok⟩ := fn_times_n (P := P) (base := base) T
  obtain ⟨ds, r, b⟩ := F.binds1 (ps := ["parts", "sentence"]) 2 1 (by simp) rfl (fun _ _ _ _ _ _ _ us its hl h2 => match us, its, hl, h2 with | [_, _], [_], _, _ => ⟨_, rfl, rfl⟩)
  exact ⟨_, fd, _, ds, ok, T.glo 2, F.kp, b, r⟩

theorem sc_mark_to : FnScope ["at"] ["at"] (defScope s_mark_to) := ⟨rfl, rfl, rfl, by decide +kernel, rfl, by decide +kernel, by decide +kernel⟩
theorem cal_mark_to (T : Tx w K mg) : Cal P w K mg base 2 "mark_to" (PF K f_mark_to) [] := by
  obtain ⟨fd, F⟩ := T.defn (d := d_mark_to) 3 rfl
  refine ⟨_, fd, ["at"], [], F.ok (k := 1) sc_mark_to (fun vs H Q E h => psp_len (n := 1) ?_ h) (fun cdv A outer s H vs Q E hr h => ⟨_, PSs.nox (pss_one (ps_ret (pe_tup (pa_cons (pe_c (cal_do T) hr (by decide) (by rfl) (pa_cons (pe_tup (pa_cons pe_str (pa_cons (pe_tup (pa_cons pe_str (pa_cons (pe_tup (pa_cons (pv 0) (pa_cons pe_int (pa_cons pe_int (pa_cons pe_int pa_nil))))) pa_nil))) (pa_cons (pe_globR rfl (T.kon 0).1) (pa_cons (pe_globR rfl (T.kon 0).1) pa_nil))))) pa_nil)) pa_nil)))), psp_of (N := ["at"]) ?_ h⟩), T.glo 3, F.kp, F.bindsN (fun _ _ _ _ _ _ us hl => match us, hl with | [_], _ => rfl), .nil⟩
  · intro ds r h
    match ds, h with
    | [_], _ => rfl
  · intro ds r h
    match ds, h with
    | [x], h =>
      cases h
      exact rs_is (rs_ret (ev_tup (ea_cons (ev_call (ea_cons (ev_tup (ea_cons ev_c (ea_cons (ev_tup (ea_cons ev_c (ea_cons (ev_tup (ea_cons (ev_var rfl) (ea_cons ev_c (ea_cons ev_c (ea_cons ev_c ea_nil))))) ea_nil))) (ea_cons (ev_gr (T.kon 0).2) (ea_cons (ev_gr (T.kon 0).2) ea_nil))))) ea_nil) rfl) ea_nil))) rfl

theorem sc_bare_mark_to : FnScope ["at", "one"] ["at"] (defScope s_bare_mark_to) := ⟨rfl, rfl, rfl, by decide +kernel, rfl, by decide +kernel, by decide +kernel⟩
theorem cal_bare_mark_to (T : Tx w K mg) : Cal P w K mg base 2 "bare_mark_to" (PF K f_bare_mark_to) [] := by
  obtain ⟨fd, F⟩ := T.defn (d := d_bare_mark_to) 4 rfl
  refine ⟨_, fd, ["at"], [], F.ok (k := 1) sc_bare_mark_to (fun vs H Q E h => psp_len (n := 1) ?_ h) (fun cdv A outer s H vs Q E hr h => ⟨_, PSs.nox (pss_cons (ps_set (i := 1) sc_bare_mark_to.nd rfl (Or.inl rfl) (pe_tup (pa_cons pe_str (pa_cons (pe_tup (pa_cons pe_int (pa_cons pe_int (pa_cons pe_int (pa_cons pe_int pa_nil))))) pa_nil)))) (pss_one (ps_ret (pe_tup (pa_cons (pe_c (cal_do T) hr (by decide) (by rfl) (pa_cons (pe_tup (pa_cons pe_str (pa_cons (pv 1) (pa_cons pe_int pa_nil)))) pa_nil)) (pa_cons (pe_c (cal_do T) hr (by decide) (by rfl) (pa_cons (pe_tup (pa_cons pe_str (pa_cons (pe_tup (pa_cons pe_str (pa_cons (pe_tup (pa_cons (pv 0) (pa_cons pe_int (pa_cons pe_int (pa_cons pe_int pa_nil))))) pa_nil))) (pa_cons (pv 1) (pa_cons (pe_globR rfl (T.kon 0).1) pa_nil))))) pa_nil)) pa_nil)))))), psp_of (N := ["at", "one"]) ?_ h⟩), T.glo 4, F.kp, F.bindsN (fun _ _ _ _ _ _ us hl => match us, hl with | [_], _ => rfl), .nil⟩
  · intro ds r h
    match ds, h with
    | [_], _ => rfl
  · intro ds r h
    match ds, h with
    | [x], h =>
      cases h
      exact rs_is (rs_set (ev_tup (ea_cons ev_c (ea_cons (ev_tup (ea_cons ev_c (ea_cons ev_c (ea_cons ev_c (ea_cons ev_c ea_nil))))) ea_nil))) (rs_ret (ev_tup (ea_cons (ev_call (ea_cons (ev_tup (ea_cons ev_c (ea_cons (ev_var rfl) (ea_cons ev_c ea_nil)))) ea_nil) rfl) (ea_cons (ev_call (ea_cons (ev_tup (ea_cons ev_c (ea_cons (ev_tup (ea_cons ev_c (ea_cons (ev_tup (ea_cons (ev_var rfl) (ea_cons ev_c (ea_cons ev_c (ea_cons ev_c ea_nil))))) ea_nil))) (ea_cons (ev_var rfl) (ea_cons (ev_gr (T.kon 0).2) ea_nil))))) ea_nil) rfl) ea_nil))))) rfl
end Ww

set_option Elab.async false
set_option linter.all false
set_option maxRecDepth 100000
set_option maxHeartbeats 4000000
/-! W6: the makers of tellings, further (printed from W6.src by gen1.py). -/
namespace Ww
open PySem PySem.Spec PyProof.Rows L2
open C8 (Cal CalAt Met Mak pe_c pe_mk pe_mt pe_mt0)
variable {P : Program} {w : World} {K : PySem.W.Frag} {mg : Str → Option Value} {base : Heap}
def f_lowest : List D → Option D
  | [l] => some (.t [.s "slice", l, .t [.i 0, .i 0, .i 0, .i 0], .t [.i 0, .i 1, .i 0, .i 0]])
  | _ => none

theorem sc_lowest : FnScope ["letter"] ["letter"] (defScope s_lowest) := ⟨rfl, rfl, rfl, by decide +kernel, rfl, by decide +kernel, by decide +kernel⟩
theorem cal_lowest (T : Tx w K mg) : Cal P w K mg base 1 "lowest" (PF K f_lowest) [] := by
  obtain ⟨fd, F⟩ := T.defn (d := d_lowest) 6 rfl
  refine ⟨_, fd, ["letter"], [], F.ok (k := 0) sc_lowest (fun vs H Q E h => psp_len (n := 1) ?_ h) (fun cdv A outer s H vs Q E hr h => ⟨_, PSs.nox (pss_one (ps_ret (pe_tup (pa_cons pe_str (pa_cons (pv 0) (pa_cons (pe_tup (pa_cons pe_int (pa_cons pe_int (pa_cons pe_int (pa_cons pe_int pa_nil))))) (pa_cons (pe_tup (pa_cons pe_int (pa_cons pe_int (pa_cons pe_int (pa_cons pe_int pa_nil))))) pa_nil))))))), psp_of (N := ["letter"]) ?_ h⟩), T.glo 6, F.kp, F.bindsN (fun _ _ _ _ _ _ us hl => match us, hl with | [_], _ => rfl), .nil⟩
  · intro ds r h
    match ds, h with
    | [_], _ => rfl
  · intro ds r h
    match ds, h with
    | [x], h =>
      cases h
      exact rs_is (rs_ret (ev_tup (ea_cons ev_c (ea_cons (ev_var rfl) (ea_cons (ev_tup (ea_cons ev_c (ea_cons ev_c (ea_cons ev_c (ea_cons ev_c ea_nil))))) (ea_cons (ev_tup (ea_cons ev_c (ea_cons ev_c (ea_cons ev_c (ea_cons ev_c ea_nil))))) ea_nil)))))) rfl

theorem sc_ends : FnScope ["letter", "c", "m", "spare", "gather", "last", "nought"] ["letter", "c", "m"] (defScope s_ends) := ⟨rfl, rfl, rfl, by decide +kernel, rfl, by decide +kernel, by decide +kernel⟩
theorem cal_ends (T : Tx w K mg) : Cal P w K mg base 3 "ends" (PSp K fun ds r => ∃ c m, ds = [.s "c", .i c, .i m] ∧ r = .t ((endsT c m).map P2.dat)) [] := by
  obtain ⟨fd, F⟩ := T.defn (d := d_ends) 5 rfl
  refine ⟨_, fd, ["letter", "c", "m"], [], F.ok (k := 2) sc_ends (fun vs H Q E h => psp_len (n := 3) ?_ h) (fun cdv A outer s H vs Q E hr h => ⟨_, PSs.nox (pss_cons (ps_set (i := 3) sc_ends.nd rfl (Or.inl rfl) (pe_tup (pa_cons pe_str (pa_cons (pe_tup (pa_cons pe_int (pa_cons pe_int (pa_cons pe_int (pa_cons pe_int pa_nil))))) pa_nil)))) (pss_cons (ps_set (i := 4) sc_ends.nd rfl (Or.inl rfl) (pe_c (cal_do T) hr (by decide) (by rfl) (pa_cons (pe_tup (pa_cons pe_str (pa_cons (pv 3) (pa_cons (pv 3) (pa_cons (pe_tup (pa_cons (pv 0) (pa_cons (pe_tup (pa_cons pe_int (pa_cons pe_int (pa_cons pe_int (pa_cons pe_int pa_nil))))) pa_nil))) pa_nil))))) pa_nil))) (pss_cons (ps_set (i := 5) sc_ends.nd rfl (Or.inl rfl) (pe_tup (pa_cons (pv 0) (pa_cons (pe_tup (pa_cons (pe_op op_sub (pv 1) pe_int) (pa_cons pe_int (pa_cons pe_int (pa_cons (pv 2) pa_nil))))) pa_nil)))) (pss_cons (ps_set (i := 6) sc_ends.nd rfl (Or.inl rfl) (pe_op op_catA (pe_tup (pa_cons (pe_c (cal_do T) hr (by decide) (by rfl) (pa_cons (pe_tup (pa_cons pe_str (pa_cons (pv 3) (pa_cons pe_int pa_nil)))) pa_nil)) (pa_cons (pe_tup (pa_cons pe_str (pa_cons (pe_tup (pa_cons (pv 1) (pa_cons (pv 2) (pa_cons pe_int pa_nil)))) (pa_cons (pe_tup pa_nil) (pa_cons (pe_tup (pa_cons (pv 4) pa_nil)) pa_nil))))) (pa_cons (pe_c (cal_do T) hr (by decide) (by rfl) (pa_cons (pe_tup (pa_cons pe_str (pa_cons (pv 3) pa_nil))) pa_nil)) pa_nil)))) (pe_c (cal_bare_mark_to T) hr (by decide) (by rfl) (pa_cons pe_int pa_nil)))) (pss_one (ps_ret (pe_op op_catA (pe_op op_catA (pv 6) (pe_tup (pa_cons (pe_c (cal_do T) hr (by decide) (by rfl) (pa_cons (pe_tup (pa_cons pe_str (pa_cons pe_int pa_nil))) pa_nil)) (pa_cons (pe_c (cal_do T) hr (by decide) (by rfl) (pa_cons (pe_tup (pa_cons pe_str (pa_cons (pv 3) (pa_cons (pv 5) pa_nil)))) pa_nil)) pa_nil)))) (pe_c (cal_mark_to T) hr (by decide) (by rfl) (pa_cons pe_int pa_nil))))))))), psp_of (N := ["letter", "c", "m", "spare", "gather", "last", "nought"]) ?_ h⟩), T.glo 5, F.kp, F.bindsN (fun _ _ _ _ _ _ us hl => match us, hl with | [_, _, _], _ => rfl), .nil⟩
  · rintro ds r ⟨c, m, rfl, _⟩
    rfl
  · rintro ds r ⟨c, m, rfl, rfl⟩
    exact rs_is (rs_set (ev_tup (ea_cons ev_c (ea_cons (ev_tup (ea_cons ev_c (ea_cons ev_c (ea_cons ev_c (ea_cons ev_c ea_nil))))) ea_nil))) (rs_set (ev_call (ea_cons (ev_tup (ea_cons ev_c (ea_cons (ev_var rfl) (ea_cons (ev_var rfl) (ea_cons (ev_tup (ea_cons (ev_var rfl) (ea_cons (ev_tup (ea_cons ev_c (ea_cons ev_c (ea_cons ev_c (ea_cons ev_c ea_nil))))) ea_nil))) ea_nil))))) ea_nil) rfl) (rs_set (ev_tup (ea_cons (ev_var rfl) (ea_cons (ev_tup (ea_cons (ev_int0 (ev_var rfl) ev_c) (ea_cons ev_c (ea_cons ev_c (ea_cons (ev_var rfl) ea_nil))))) ea_nil))) (rs_set (ev_cat (ev_tup (ea_cons (ev_call (ea_cons (ev_tup (ea_cons ev_c (ea_cons (ev_var rfl) (ea_cons ev_c ea_nil)))) ea_nil) rfl) (ea_cons (ev_tup (ea_cons ev_c (ea_cons (ev_tup (ea_cons (ev_var rfl) (ea_cons (ev_var rfl) (ea_cons ev_c ea_nil)))) (ea_cons (ev_tup ea_nil) (ea_cons (ev_tup (ea_cons (ev_var rfl) ea_nil)) ea_nil))))) (ea_cons (ev_call (ea_cons (ev_tup (ea_cons ev_c (ea_cons (ev_var rfl) ea_nil))) ea_nil) rfl) ea_nil)))) (ev_call (ea_cons ev_c ea_nil) rfl)) (rs_ret (ev_cat (ev_cat (ev_var rfl) (ev_tup (ea_cons (ev_call (ea_cons (ev_tup (ea_cons ev_c (ea_cons ev_c ea_nil))) ea_nil) rfl) (ea_cons (ev_call (ea_cons (ev_tup (ea_cons ev_c (ea_cons (ev_var rfl) (ea_cons (ev_var rfl) ea_nil)))) ea_nil) rfl) ea_nil)))) (ev_call (ea_cons ev_c ea_nil) rfl))))))) rfl

theorem sc_signs_to : FnScope ["letters", "parts", "k", "letter", "last"] ["letters"] (defScope s_signs_to) := ⟨rfl, rfl, rfl, by decide +kernel, rfl, by decide +kernel, by decide +kernel⟩
theorem cal_signs_to (T : Tx w K mg) : Cal P w K mg base 2 "signs_to" (PSp K fun ds r => ds = [.s "abc"] ∧ r = .t (signsT.map P2.dat)) [] := by
  obtain ⟨fd, F⟩ := T.defn (d := d_signs_to) 7 rfl
  refine ⟨_, fd, ["letters"], [], F.ok (k := 1) sc_signs_to (fun vs H Q E h => psp_len (n := 1) ?_ h) (fun cdv A outer s H vs Q E hr h => ⟨_, PSs.nox (pss_cons (ps_set (i := 1) sc_signs_to.nd rfl (Or.inl rfl) (pe_tup pa_nil)) (pss_cons (ps_for PassesOwn.never rfl (pi_enumS rfl (T.free 73) (pa_cons (pv 0) pa_nil)) (pg_tup rfl (pgs_cons (pg_name (i := 2) sc_signs_to.nd rfl (Or.inl rfl)) (pgs_cons (pg_name (i := 3) sc_signs_to.nd rfl (Or.inl rfl)) pgs_nil))) (pss_cons (ps_set (i := 4) sc_signs_to.nd rfl (Or.inl rfl) (pe_ck (kal_cell_cm T) hr (by decide) (by rfl) (pa_cons (pv 3) pa_nil) (pk_cons (pe_un un_neg pe_int) (pk_cons pe_int pk_nil)))) (pss_one (ps_set (i := 1) sc_signs_to.nd rfl (Or.inl rfl) (pe_op op_catA (pv 1) (pe_tup (pa_cons (pe_c (cal_do T) hr (by decide) (by rfl) (pa_cons (pe_tup (pa_cons pe_str (pa_cons pe_int pa_nil))) pa_nil)) (pa_cons (pe_c (cal_do T) hr (by decide) (by rfl) (pa_cons (pe_tup (pa_cons pe_str (pa_cons (pe_c (cal_cell_1 T) hr (by decide) (by rfl) (pa_cons pe_str pa_nil)) (pa_cons (pv 4) pa_nil)))) pa_nil)) (pa_cons (pe_c (cal_do T) hr (by decide) (by rfl) (pa_cons (pe_tup (pa_cons pe_str (pa_cons (pe_ck (kal_cell_c T) hr (by decide) (by rfl) (pa_cons pe_str pa_nil) (pk_cons (pv 2) pk_nil)) (pa_cons (pe_globR rfl (T.kon 0).1) (pa_cons (pe_globR rfl (T.kon 0).1) pa_nil))))) pa_nil)) pa_nil))))))))) (pss_one (ps_ret (pv 1))))), psp_of (N := ["letters", "parts", "k", "letter", "last"]) ?_ h⟩), T.glo 7, F.kp, F.bindsN (fun _ _ _ _ _ _ us hl => match us, hl with | [_], _ => rfl), .nil⟩
  · rintro ds r ⟨rfl, _⟩
    rfl
  · rintro ds r ⟨rfl, rfl⟩
    let δ : Nat → DS := fun i => match i with
      | 0 => [some (.s "abc"), some (.t []), none, none, none]
      | 1 => [some (.s "abc"), some (.t ((signsT.take 3).map P2.dat)), some (.i 0), some (.s "a"), some (cl .a (-1) 0 0 1 |>.d Ix.d)]
      | 2 => [some (.s "abc"), some (.t ((signsT.take 6).map P2.dat)), some (.i 1), some (.s "b"), some (cl .b (-1) 0 0 1 |>.d Ix.d)]
      | _ => [some (.s "abc"), some (.t (signsT.map P2.dat)), some (.i 2), some (.s "c"), some (cl .c (-1) 0 0 1 |>.d Ix.d)]
    refine rs_then (rn_set (ev_tup ea_nil)) (rs_then (rn_enumS (z := "abc") (a := 2) (b := 3) δ (ev_var rfl) ?_) (rs_ret (ev_var rfl)))
    intro i c hc
    match i, hc with
    | 0, hc =>
      have e : c = 97 := (Option.some.inj hc).symm
      subst e
      exact rn_is (rn_seq (rn_set (ev_callN (ea_cons (ev_var rfl) ea_nil) (ea_cons (ev_un ev_c) (ea_cons ev_c ea_nil)) rfl rfl rfl)) (rn_set (ev_cat (ev_var rfl) (ev_tup (ea_cons (ev_call (ea_cons (ev_tup (ea_cons ev_c (ea_cons ev_c ea_nil))) ea_nil) rfl) (ea_cons (ev_call (ea_cons (ev_tup (ea_cons ev_c (ea_cons (ev_callD (ea_cons ev_c ea_nil) rfl) (ea_cons (ev_var rfl) ea_nil)))) ea_nil) rfl) (ea_cons (ev_call (ea_cons (ev_tup (ea_cons ev_c (ea_cons (ev_callN (ea_cons ev_c ea_nil) (ea_cons (ev_var rfl) ea_nil) rfl rfl rfl) (ea_cons (ev_gr (T.kon 0).2) (ea_cons (ev_gr (T.kon 0).2) ea_nil))))) ea_nil) rfl) ea_nil))))))) rfl
    | 1, hc =>
      have e : c = 98 := (Option.some.inj hc).symm
      subst e
      exact rn_is (rn_seq (rn_set (ev_callN (ea_cons (ev_var rfl) ea_nil) (ea_cons (ev_un ev_c) (ea_cons ev_c ea_nil)) rfl rfl rfl)) (rn_set (ev_cat (ev_var rfl) (ev_tup (ea_cons (ev_call (ea_cons (ev_tup (ea_cons ev_c (ea_cons ev_c ea_nil))) ea_nil) rfl) (ea_cons (ev_call (ea_cons (ev_tup (ea_cons ev_c (ea_cons (ev_callD (ea_cons ev_c ea_nil) rfl) (ea_cons (ev_var rfl) ea_nil)))) ea_nil) rfl) (ea_cons (ev_call (ea_cons (ev_tup (ea_cons ev_c (ea_cons (ev_callN (ea_cons ev_c ea_nil) (ea_cons (ev_var rfl) ea_nil) rfl rfl rfl) (ea_cons (ev_gr (T.kon 0).2) (ea_cons (ev_gr (T.kon 0).2) ea_nil))))) ea_nil) rfl) ea_nil))))))) rfl
    | 2, hc =>
      have e : c = 99 := (Option.some.inj hc).symm
      subst e
      exact rn_is (rn_seq (rn_set (ev_callN (ea_cons (ev_var rfl) ea_nil) (ea_cons (ev_un ev_c) (ea_cons ev_c ea_nil)) rfl rfl rfl)) (rn_set (ev_cat (ev_var rfl) (ev_tup (ea_cons (ev_call (ea_cons (ev_tup (ea_cons ev_c (ea_cons ev_c ea_nil))) ea_nil) rfl) (ea_cons (ev_call (ea_cons (ev_tup (ea_cons ev_c (ea_cons (ev_callD (ea_cons ev_c ea_nil) rfl) (ea_cons (ev_var rfl) ea_nil)))) ea_nil) rfl) (ea_cons (ev_call (ea_cons (ev_tup (ea_cons ev_c (ea_cons (ev_callN (ea_cons ev_c ea_nil) (ea_cons (ev_var rfl) ea_nil) rfl rfl rfl) (ea_cons (ev_gr (T.kon 0).2) (ea_cons (ev_gr (T.kon 0).2) ea_nil))))) ea_nil) rfl) ea_nil))))))) rfl
    | i + 3, hc => cases hc
end Ww

set_option Elab.async false
set_option linter.all false
set_option maxRecDepth 100000
set_option maxHeartbeats 4000000
/-! W7: the tellings of sum, both, any, the shifts; deeds (printed from W7.src by gen1.py). -/
namespace Ww
open PySem PySem.Spec PyProof.Rows L2
open C8 (Cal CalAt Met Mak pe_c pe_mk pe_mt pe_mt0)
variable {P : Program} {w : World} {K : PySem.W.Frag} {mg : Str → Option Value} {base : Heap}

theorem sc_sum_parts : FnScope ["both_sides", "sentence", "add", "first", "other", "over"] [] (defScope s_sum_parts) := ⟨rfl, rfl, rfl, by decide +kernel, rfl, by decide +kernel, by decide +kernel⟩
theorem at_sum_parts (T : Tx w K mg) : CalAt P w K mg base 4 (He.ga K "sum_parts") (PSp K fun ds r => ds = [] ∧ r = Tell.dat sumT) := by
  obtain ⟨fd, F⟩ := T.defn (d := d_sum_parts) 8 rfl
  refine ⟨fd, [], F.ok (k := 3) sc_sum_parts (fun vs H Q E h => psp_len (n := 0) ?_ h) (fun cdv A outer s H vs Q E hr h => ⟨_, PSs.nox (pss_cons (ps_set (i := 0) sc_sum_parts.nd rfl (Or.inl rfl) (pe_tup (pa_cons (pe_tup (pa_cons pe_int (pa_cons (pe_globR rfl (T.kon 1).1) (pa_cons (pe_tup (pa_cons (pe_c (cal_lowest T) hr (by decide) (by rfl) (pa_cons pe_str pa_nil)) pa_nil)) pa_nil)))) (pa_cons (pe_tup (pa_cons pe_int (pa_cons (pe_globR rfl (T.kon 1).1) (pa_cons (pe_tup (pa_cons (pe_c (cal_lowest T) hr (by decide) (by rfl) (pa_cons pe_str pa_nil)) pa_nil)) pa_nil)))) (pa_cons (pe_tup (pa_cons (pe_un un_neg pe_int) (pa_cons (pe_globR rfl (T.kon 1).1) (pa_cons (pe_tup (pa_cons (pe_c (cal_lowest T) hr (by decide) (by rfl) (pa_cons pe_str pa_nil)) pa_nil)) pa_nil)))) pa_nil))))) (pss_cons (ps_set (i := 1) sc_sum_parts.nd rfl (Or.inl rfl) (pe_op op_catA (pv 0) (pe_tup (pa_cons (pe_tup (pa_cons (pe_un un_neg pe_int) (pa_cons (pe_globR rfl (T.kon 2).1) (pa_cons (pe_tup (pa_cons (pe_globR rfl (T.kon 3).1) pa_nil)) pa_nil)))) pa_nil)))) (pss_cons (ps_set (i := 2) sc_sum_parts.nd rfl (Or.inl rfl) (pe_c (cal_do T) hr (by decide) (by rfl) (pa_cons (pe_tup (pa_cons pe_str (pa_cons (pe_ck (kal_cell_i T) hr (by decide) (by rfl) (pa_cons pe_str pa_nil) (pk_cons pe_int pk_nil)) (pa_cons (pe_ck (kal_cell_i T) hr (by decide) (by rfl) (pa_cons pe_str pa_nil) (pk_cons pe_int pk_nil)) (pa_cons (pe_ck (kal_cell_i T) hr (by decide) (by rfl) (pa_cons pe_str pa_nil) (pk_cons pe_int pk_nil)) pa_nil))))) pa_nil))) (pss_cons (ps_set (i := 3) sc_sum_parts.nd rfl (Or.inl rfl) (pe_c (cal_do T) hr (by decide) (by rfl) (pa_cons (pe_tup (pa_cons pe_str (pa_cons (pe_ck (kal_cell_c T) hr (by decide) (by rfl) (pa_cons pe_str pa_nil) (pk_cons pe_int pk_nil)) (pa_cons (pe_c (cal_cell_1 T) hr (by decide) (by rfl) (pa_cons pe_str pa_nil)) (pa_cons (pe_ck (kal_cell_c T) hr (by decide) (by rfl) (pa_cons pe_str pa_nil) (pk_cons pe_int pk_nil)) pa_nil))))) pa_nil))) (pss_cons (ps_set (i := 4) sc_sum_parts.nd rfl (Or.inl rfl) (pe_c (cal_do T) hr (by decide) (by rfl) (pa_cons (pe_tup (pa_cons pe_str (pa_cons (pe_ck (kal_cell_c T) hr (by decide) (by rfl) (pa_cons pe_str pa_nil) (pk_cons pe_int pk_nil)) (pa_cons (pe_ck (kal_cell_c T) hr (by decide) (by rfl) (pa_cons pe_str pa_nil) (pk_cons pe_int pk_nil)) (pa_cons (pe_ck (kal_cell_c T) hr (by decide) (by rfl) (pa_cons pe_str pa_nil) (pk_cons pe_int pk_nil)) pa_nil))))) pa_nil))) (pss_cons (ps_set (i := 5) sc_sum_parts.nd rfl (Or.inl rfl) (pe_tup (pa_cons (pv 3) (pa_cons (pv 4) (pa_cons (pe_c (cal_do T) hr (by decide) (by rfl) (pa_cons (pe_tup (pa_cons pe_str (pa_cons (pe_ck (kal_cell_c T) hr (by decide) (by rfl) (pa_cons pe_str pa_nil) (pk_cons pe_int pk_nil)) (pa_cons (pe_ck (kal_cell_c T) hr (by decide) (by rfl) (pa_cons pe_str pa_nil) (pk_cons pe_int pk_nil)) (pa_cons (pe_ck (kal_cell_c T) hr (by decide) (by rfl) (pa_cons pe_str pa_nil) (pk_cons pe_int pk_nil)) pa_nil))))) pa_nil)) pa_nil))))) (pss_one (ps_ret (pe_op op_catA (pe_op op_catA (pe_op op_catA (pe_op op_catA (pe_tup (pa_cons (pe_c (cal_do T) hr (by decide) (by rfl) (pa_cons (pe_tup (pa_cons pe_str (pa_cons pe_int pa_nil))) pa_nil)) (pa_cons (pe_c (cal_times_n T) hr (by decide) (by rfl) (pa_cons (pe_tup (pa_cons (pv 2) pa_nil)) (pa_cons (pv 1) pa_nil))) pa_nil))) (pe_c (cal_mark_to T) hr (by decide) (by rfl) (pa_cons pe_int pa_nil))) (pe_c (cal_signs_to T) hr (by decide) (by rfl) (pa_cons pe_str pa_nil))) (pv 5)) (pe_c (cal_ends T) hr (by decide) (by rfl) (pa_cons pe_str (pa_cons pe_int (pa_cons pe_int pa_nil))))))))))))), psp_of (N := ["both_sides", "sentence", "add", "first", "other", "over"]) ?_ h⟩), F.kp, F.bindsN (fun _ _ _ _ _ _ us hl => match us, hl with | [], _ => rfl)⟩
  · rintro ds r ⟨rfl, _⟩
    rfl
  · rintro ds r ⟨rfl, rfl⟩
    exact rs_is (rs_set (ev_tup (ea_cons (ev_tup (ea_cons ev_c (ea_cons (ev_gr (T.kon 1).2) (ea_cons (ev_tup (ea_cons (ev_call (ea_cons ev_c ea_nil) rfl) ea_nil)) ea_nil)))) (ea_cons (ev_tup (ea_cons ev_c (ea_cons (ev_gr (T.kon 1).2) (ea_cons (ev_tup (ea_cons (ev_call (ea_cons ev_c ea_nil) rfl) ea_nil)) ea_nil)))) (ea_cons (ev_tup (ea_cons (ev_un ev_c) (ea_cons (ev_gr (T.kon 1).2) (ea_cons (ev_tup (ea_cons (ev_call (ea_cons ev_c ea_nil) rfl) ea_nil)) ea_nil)))) ea_nil)))) (rs_set (ev_cat (ev_var rfl) (ev_tup (ea_cons (ev_tup (ea_cons (ev_un ev_c) (ea_cons (ev_gr (T.kon 2).2) (ea_cons (ev_tup (ea_cons (ev_gr (T.kon 3).2) ea_nil)) ea_nil)))) ea_nil))) (rs_set (ev_call (ea_cons (ev_tup (ea_cons ev_c (ea_cons (ev_callN (ea_cons ev_c ea_nil) (ea_cons ev_c ea_nil) rfl rfl rfl) (ea_cons (ev_callN (ea_cons ev_c ea_nil) (ea_cons ev_c ea_nil) rfl rfl rfl) (ea_cons (ev_callN (ea_cons ev_c ea_nil) (ea_cons ev_c ea_nil) rfl rfl rfl) ea_nil))))) ea_nil) rfl) (rs_set (ev_call (ea_cons (ev_tup (ea_cons ev_c (ea_cons (ev_callN (ea_cons ev_c ea_nil) (ea_cons ev_c ea_nil) rfl rfl rfl) (ea_cons (ev_callD (ea_cons ev_c ea_nil) rfl) (ea_cons (ev_callN (ea_cons ev_c ea_nil) (ea_cons ev_c ea_nil) rfl rfl rfl) ea_nil))))) ea_nil) rfl) (rs_set (ev_call (ea_cons (ev_tup (ea_cons ev_c (ea_cons (ev_callN (ea_cons ev_c ea_nil) (ea_cons ev_c ea_nil) rfl rfl rfl) (ea_cons (ev_callN (ea_cons ev_c ea_nil) (ea_cons ev_c ea_nil) rfl rfl rfl) (ea_cons (ev_callN (ea_cons ev_c ea_nil) (ea_cons ev_c ea_nil) rfl rfl rfl) ea_nil))))) ea_nil) rfl) (rs_set (ev_tup (ea_cons (ev_var rfl) (ea_cons (ev_var rfl) (ea_cons (ev_call (ea_cons (ev_tup (ea_cons ev_c (ea_cons (ev_callN (ea_cons ev_c ea_nil) (ea_cons ev_c ea_nil) rfl rfl rfl) (ea_cons (ev_callN (ea_cons ev_c ea_nil) (ea_cons ev_c ea_nil) rfl rfl rfl) (ea_cons (ev_callN (ea_cons ev_c ea_nil) (ea_cons ev_c ea_nil) rfl rfl rfl) ea_nil))))) ea_nil) rfl) ea_nil)))) (rs_ret (ev_cat (ev_cat (ev_cat (ev_cat (ev_tup (ea_cons (ev_call (ea_cons (ev_tup (ea_cons ev_c (ea_cons ev_c ea_nil))) ea_nil) rfl) (ea_cons (ev_call (ea_cons (ev_tup (ea_cons (ev_var rfl) ea_nil)) (ea_cons (ev_var rfl) ea_nil)) rfl) ea_nil))) (ev_call (ea_cons ev_c ea_nil) rfl)) (ev_call (ea_cons ev_c ea_nil) ⟨rfl, rfl⟩)) (ev_var rfl)) (ev_call (ea_cons ev_c (ea_cons ev_c (ea_cons ev_c ea_nil))) ⟨_, _, rfl, rfl⟩))))))))) rfl

theorem sc_no_marks : FnScope [] [] (defScope s_no_marks) := ⟨rfl, rfl, rfl, by decide +kernel, rfl, by decide +kernel, by decide +kernel⟩
theorem cal_no_marks (T : Tx w K mg) : Cal P w K mg base 2 "no_marks" (PSp K fun ds r => ds = [] ∧ r = .t (noMarks.map P2.dat)) [] := by
  obtain ⟨fd, F⟩ := T.defn (d := d_no_marks) 9 rfl
  refine ⟨_, fd, [], [], F.ok (k := 1) sc_no_marks (fun vs H Q E h => psp_len (n := 0) ?_ h) (fun cdv A outer s H vs Q E hr h => ⟨_, PSs.nox (pss_one (ps_ret (pe_tup (pa_cons (pe_c (cal_do T) hr (by decide) (by rfl) (pa_cons (pe_tup (pa_cons pe_str (pa_cons (pe_c (cal_cell_1 T) hr (by decide) (by rfl) (pa_cons pe_str pa_nil)) (pa_cons pe_int pa_nil)))) pa_nil)) (pa_cons (pe_c (cal_do T) hr (by decide) (by rfl) (pa_cons (pe_tup (pa_cons pe_str (pa_cons (pe_ck (kal_cell_c T) hr (by decide) (by rfl) (pa_cons pe_str pa_nil) (pk_cons pe_int pk_nil)) (pa_cons pe_int pa_nil)))) pa_nil)) pa_nil))))), psp_of (N := []) ?_ h⟩), T.glo 9, F.kp, F.bindsN (fun _ _ _ _ _ _ us hl => match us, hl with | [], _ => rfl), .nil⟩
  · rintro ds r ⟨rfl, _⟩
    rfl
  · rintro ds r ⟨rfl, rfl⟩
    exact rs_is (rs_ret (ev_tup (ea_cons (ev_call (ea_cons (ev_tup (ea_cons ev_c (ea_cons (ev_callD (ea_cons ev_c ea_nil) rfl) (ea_cons ev_c ea_nil)))) ea_nil) rfl) (ea_cons (ev_call (ea_cons (ev_tup (ea_cons ev_c (ea_cons (ev_callN (ea_cons ev_c ea_nil) (ea_cons ev_c ea_nil) rfl rfl rfl) (ea_cons ev_c ea_nil)))) ea_nil) rfl) ea_nil)))) rfl

theorem sc_twos_parts : FnScope ["word", "go"] ["word"] (defScope s_twos_parts) := ⟨rfl, rfl, rfl, by decide +kernel, rfl, by decide +kernel, by decide +kernel⟩
theorem cal_twos_parts (T : Tx w K mg) : Cal P w K mg base 4 "twos_parts" (PSp K fun ds r => ∃ o : Two, ds = [.s o.str] ∧ r = Tell.dat (twosT o)) [] := by
  obtain ⟨fd, F⟩ := T.defn (d := d_twos_parts) 10 rfl
  refine ⟨_, fd, ["word"], [], F.ok (k := 3) sc_twos_parts (fun vs H Q E h => psp_len (n := 1) ?_ h) (fun cdv A outer s H vs Q E hr h => ⟨_, PSs.nox (pss_cons (ps_set (i := 1) sc_twos_parts.nd rfl (Or.inl rfl) (pe_c (cal_do T) hr (by decide) (by rfl) (pa_cons (pe_tup (pa_cons (pv 0) (pa_cons (pe_ck (kal_cell_i T) hr (by decide) (by rfl) (pa_cons pe_str pa_nil) (pk_cons pe_int pk_nil)) (pa_cons (pe_ck (kal_cell_i T) hr (by decide) (by rfl) (pa_cons pe_str pa_nil) (pk_cons pe_int pk_nil)) (pa_cons (pe_ck (kal_cell_i T) hr (by decide) (by rfl) (pa_cons pe_str pa_nil) (pk_cons pe_int pk_nil)) pa_nil))))) pa_nil))) (pss_one (ps_ret (pe_op op_catA (pe_op op_catA (pe_tup (pa_cons (pe_c (cal_times_n_1 T) hr (by decide) (by rfl) (pa_cons (pe_tup (pa_cons (pv 1) pa_nil)) pa_nil)) pa_nil)) (pe_c0 (cal_no_marks T) hr (by decide) (by rfl))) (pe_c (cal_ends T) hr (by decide) (by rfl) (pa_cons pe_str (pa_cons pe_int (pa_cons pe_int pa_nil)))))))), psp_of (N := ["word", "go"]) ?_ h⟩), T.glo 10, F.kp, F.bindsN (fun _ _ _ _ _ _ us hl => match us, hl with | [_], _ => rfl), .nil⟩
  · rintro ds r ⟨o, rfl, _⟩
    rfl
  · rintro ds r ⟨o, rfl, rfl⟩
    exact rs_is (rs_set (ev_call (ea_cons (ev_tup (ea_cons (ev_var rfl) (ea_cons (ev_callN (ea_cons ev_c ea_nil) (ea_cons ev_c ea_nil) rfl rfl rfl) (ea_cons (ev_callN (ea_cons ev_c ea_nil) (ea_cons ev_c ea_nil) rfl rfl rfl) (ea_cons (ev_callN (ea_cons ev_c ea_nil) (ea_cons ev_c ea_nil) rfl rfl rfl) ea_nil))))) ea_nil) rfl) (rs_ret (ev_cat (ev_cat (ev_tup (ea_cons (ev_callD (ea_cons (ev_tup (ea_cons (ev_var rfl) ea_nil)) ea_nil) rfl) ea_nil)) (ev_call ea_nil ⟨rfl, rfl⟩)) (ev_call (ea_cons ev_c (ea_cons ev_c (ea_cons ev_c ea_nil))) ⟨_, _, rfl, rfl⟩)))) rfl

theorem sc_copied : FnScope ["sentence"] [] (defScope s_copied) := ⟨rfl, rfl, rfl, by decide +kernel, rfl, by decide +kernel, by decide +kernel⟩
theorem cal_copied (T : Tx w K mg) : Cal P w K mg base 2 "copied" (PSp K fun ds r => ds = [] ∧ r = .t (copiedT.map P2.dat)) [] := by
  obtain ⟨fd, F⟩ := T.defn (d := d_copied) 11 rfl
  refine ⟨_, fd, [], [], F.ok (k := 1) sc_copied (fun vs H Q E h => psp_len (n := 0) ?_ h) (fun cdv A outer s H vs Q E hr h => ⟨_, PSs.nox (pss_cons (ps_set (i := 0) sc_copied.nd rfl (Or.inl rfl) (pe_tup (pa_cons (pe_tup (pa_cons pe_int (pa_cons (pe_globR rfl (T.kon 1).1) (pa_cons (pe_tup (pa_cons (pe_c (cal_lowest T) hr (by decide) (by rfl) (pa_cons pe_str pa_nil)) pa_nil)) pa_nil)))) (pa_cons (pe_tup (pa_cons (pe_un un_neg pe_int) (pa_cons (pe_globR rfl (T.kon 1).1) (pa_cons (pe_tup (pa_cons (pe_c (cal_lowest T) hr (by decide) (by rfl) (pa_cons pe_str pa_nil)) pa_nil)) pa_nil)))) pa_nil)))) (pss_one (ps_ret (pe_tup (pa_cons (pe_c (cal_times_n T) hr (by decide) (by rfl) (pa_cons (pe_tup (pa_cons (pe_c (cal_do T) hr (by decide) (by rfl) (pa_cons (pe_tup (pa_cons pe_str (pa_cons (pe_ck (kal_cell_i T) hr (by decide) (by rfl) (pa_cons pe_str pa_nil) (pk_cons pe_int pk_nil)) (pa_cons (pe_ck (kal_cell_i T) hr (by decide) (by rfl) (pa_cons pe_str pa_nil) (pk_cons pe_int pk_nil)) pa_nil)))) pa_nil)) pa_nil)) (pa_cons (pv 0) pa_nil))) pa_nil))))), psp_of (N := ["sentence"]) ?_ h⟩), T.glo 11, F.kp, F.bindsN (fun _ _ _ _ _ _ us hl => match us, hl with | [], _ => rfl), .nil⟩
  · rintro ds r ⟨rfl, _⟩
    rfl
  · rintro ds r ⟨rfl, rfl⟩
    exact rs_is (rs_set (ev_tup (ea_cons (ev_tup (ea_cons ev_c (ea_cons (ev_gr (T.kon 1).2) (ea_cons (ev_tup (ea_cons (ev_call (ea_cons ev_c ea_nil) rfl) ea_nil)) ea_nil)))) (ea_cons (ev_tup (ea_cons (ev_un ev_c) (ea_cons (ev_gr (T.kon 1).2) (ea_cons (ev_tup (ea_cons (ev_call (ea_cons ev_c ea_nil) rfl) ea_nil)) ea_nil)))) ea_nil))) (rs_ret (ev_tup (ea_cons (ev_call (ea_cons (ev_tup (ea_cons (ev_call (ea_cons (ev_tup (ea_cons ev_c (ea_cons (ev_callN (ea_cons ev_c ea_nil) (ea_cons ev_c ea_nil) rfl rfl rfl) (ea_cons (ev_callN (ea_cons ev_c ea_nil) (ea_cons ev_c ea_nil) rfl rfl rfl) ea_nil)))) ea_nil) rfl) ea_nil)) (ea_cons (ev_var rfl) ea_nil)) rfl) ea_nil)))) rfl

theorem sc_ahead_of_round : FnScope ["word"] ["word"] (defScope s_ahead_of_round) := ⟨rfl, rfl, rfl, by decide +kernel, rfl, by decide +kernel, by decide +kernel⟩
theorem cal_ahead_of_round (T : Tx w K mg) : Cal P w K mg base 2 "ahead_of_round" (PSp K fun ds r => ∃ k : Sh, ds = [.s k.str] ∧ r = .t [P1.dat (aheadT k)]) [] := by
  obtain ⟨fd, F⟩ := T.defn (d := d_ahead_of_round) 12 rfl
  refine ⟨_, fd, ["word"], [], F.ok (k := 1) sc_ahead_of_round (fun vs H Q E h => psp_len (n := 1) ?_ h) (fun cdv A outer s H vs Q E hr h => ⟨_, PSs.nox (pss_cons (ps_if (PW.pt (pw_or (pt_cmpR op_eq (pv 0) pe_str (nomark _)) (pw_or1 (pt_cmpR op_eq (pv 0) pe_str (nomark _))))) (pss_one (ps_ret (pe_tup (pa_cons (pe_c (cal_do T) hr (by decide) (by rfl) (pa_cons (pe_globR rfl (T.kon 4).1) pa_nil)) pa_nil)))) pss_nil) (pss_one (ps_ret (pe_tup (pa_cons (pe_c (cal_do T) hr (by decide) (by rfl) (pa_cons (pe_tup (pa_cons pe_str (pa_cons pe_int pa_nil))) pa_nil)) pa_nil))))), psp_of (N := ["word"]) ?_ h⟩), T.glo 12, F.kp, F.bindsN (fun _ _ _ _ _ _ us hl => match us, hl with | [_], _ => rfl), .nil⟩
  · rintro ds r ⟨o, rfl, _⟩
    rfl
  · rintro ds r ⟨k, rfl, rfl⟩
    cases k with
    | left => exact rs_is (rs_skip (et_or (et_is (et_test (ev_eq (ev_var rfl) ev_c)) (by decide)) (et_is (et_test (ev_eq (ev_var rfl) ev_c)) (by decide))) (rs_ret (ev_tup (ea_cons (ev_call (ea_cons (ev_tup (ea_cons ev_c (ea_cons ev_c ea_nil))) ea_nil) rfl) ea_nil)))) rfl
    | right => exact rs_is (rs_skip (et_or (et_is (et_test (ev_eq (ev_var rfl) ev_c)) (by decide)) (et_is (et_test (ev_eq (ev_var rfl) ev_c)) (by decide))) (rs_ret (ev_tup (ea_cons (ev_call (ea_cons (ev_tup (ea_cons ev_c (ea_cons ev_c ea_nil))) ea_nil) rfl) ea_nil)))) rfl
    | down => exact rs_is (rs_now (rs_ifT (et_orT (et_is (et_test (ev_eq (ev_var rfl) ev_c)) (by decide))) (rs_ret (ev_tup (ea_cons (ev_call (ea_cons (ev_gr (T.kon 4).2) ea_nil) rfl) ea_nil))))) rfl
    | roll => exact rs_is (rs_now (rs_ifT (et_or (et_is (et_test (ev_eq (ev_var rfl) ev_c)) (by decide)) (et_is (et_test (ev_eq (ev_var rfl) ev_c)) (by decide))) (rs_ret (ev_tup (ea_cons (ev_call (ea_cons (ev_gr (T.kon 4).2) ea_nil) rfl) ea_nil))))) rfl

theorem sc_one_place : FnScope ["word", "from_top"] ["word"] (defScope s_one_place) := ⟨rfl, rfl, rfl, by decide +kernel, rfl, by decide +kernel, by decide +kernel⟩
theorem cal_one_place (T : Tx w K mg) : Cal P w K mg base 2 "one_place" (PSp K fun ds r => ∃ k : Sh, ds = [.s k.str] ∧ r = P1.dat (onePlace k)) [] := by
  obtain ⟨fd, F⟩ := T.defn (d := d_one_place) 13 rfl
  refine ⟨_, fd, ["word"], [], F.ok (k := 1) sc_one_place (fun vs H Q E h => psp_len (n := 1) ?_ h) (fun cdv A outer s H vs Q E hr h => ⟨_, PSs.nox (pss_cons (ps_if (PW.pt (pw_or (pt_cmpR op_eq (pv 0) pe_str (nomark _)) (pw_or1 (pt_cmpR op_eq (pv 0) pe_str (nomark _))))) (pss_one (ps_ret (pe_c (cal_times_n_1 T) hr (by decide) (by rfl) (pa_cons (pe_tup (pa_cons (pe_c (cal_do T) hr (by decide) (by rfl) (pa_cons (pe_tup (pa_cons pe_str (pa_cons (pe_ck (kal_cell_j T) hr (by decide) (by rfl) (pa_cons pe_str pa_nil) (pk_cons pe_int pk_nil)) (pa_cons (pe_ck (kal_cell_j T) hr (by decide) (by rfl) (pa_cons pe_str pa_nil) (pk_cons pe_int pk_nil)) pa_nil)))) pa_nil)) pa_nil)) pa_nil)))) pss_nil) (pss_cons (ps_set (i := 1) sc_one_place.nd rfl (Or.inl rfl) (pe_ck (kal_cell_cjm T) hr (by decide) (by rfl) (pa_cons pe_str pa_nil) (pk_cons (pe_un un_neg pe_int) (pk_cons (pe_un un_neg pe_int) (pk_cons pe_int pk_nil))))) (pss_one (ps_ret (pe_c (cal_times_n_1 T) hr (by decide) (by rfl) (pa_cons (pe_tup (pa_cons (pe_c (cal_do T) hr (by decide) (by rfl) (pa_cons (pe_tup (pa_cons pe_str (pa_cons (pv 1) (pa_cons (pv 1) pa_nil)))) pa_nil)) pa_nil)) pa_nil)))))), psp_of (N := ["word", "from_top"]) ?_ h⟩), T.glo 13, F.kp, F.bindsN (fun _ _ _ _ _ _ us hl => match us, hl with | [_], _ => rfl), .nil⟩
  · rintro ds r ⟨o, rfl, _⟩
    rfl
  · rintro ds r ⟨k, rfl, rfl⟩
    cases k with
    | left => exact rs_is (rs_now (rs_ifT (et_orT (et_is (et_test (ev_eq (ev_var rfl) ev_c)) (by decide))) (rs_ret (ev_callD (ea_cons (ev_tup (ea_cons (ev_call (ea_cons (ev_tup (ea_cons ev_c (ea_cons (ev_callN (ea_cons ev_c ea_nil) (ea_cons ev_c ea_nil) rfl rfl rfl) (ea_cons (ev_callN (ea_cons ev_c ea_nil) (ea_cons ev_c ea_nil) rfl rfl rfl) ea_nil)))) ea_nil) rfl) ea_nil)) ea_nil) rfl)))) rfl
    | right => exact rs_is (rs_skip (et_or (et_is (et_test (ev_eq (ev_var rfl) ev_c)) (by decide)) (et_is (et_test (ev_eq (ev_var rfl) ev_c)) (by decide))) (rs_set (ev_callN (ea_cons ev_c ea_nil) (ea_cons (ev_un ev_c) (ea_cons (ev_un ev_c) (ea_cons ev_c ea_nil))) rfl rfl rfl) (rs_ret (ev_callD (ea_cons (ev_tup (ea_cons (ev_call (ea_cons (ev_tup (ea_cons ev_c (ea_cons (ev_var rfl) (ea_cons (ev_var rfl) ea_nil)))) ea_nil) rfl) ea_nil)) ea_nil) rfl)))) rfl
    | down => exact rs_is (rs_skip (et_or (et_is (et_test (ev_eq (ev_var rfl) ev_c)) (by decide)) (et_is (et_test (ev_eq (ev_var rfl) ev_c)) (by decide))) (rs_set (ev_callN (ea_cons ev_c ea_nil) (ea_cons (ev_un ev_c) (ea_cons (ev_un ev_c) (ea_cons ev_c ea_nil))) rfl rfl rfl) (rs_ret (ev_callD (ea_cons (ev_tup (ea_cons (ev_call (ea_cons (ev_tup (ea_cons ev_c (ea_cons (ev_var rfl) (ea_cons (ev_var rfl) ea_nil)))) ea_nil) rfl) ea_nil)) ea_nil) rfl)))) rfl
    | roll => exact rs_is (rs_now (rs_ifT (et_or (et_is (et_test (ev_eq (ev_var rfl) ev_c)) (by decide)) (et_is (et_test (ev_eq (ev_var rfl) ev_c)) (by decide))) (rs_ret (ev_callD (ea_cons (ev_tup (ea_cons (ev_call (ea_cons (ev_tup (ea_cons ev_c (ea_cons (ev_callN (ea_cons ev_c ea_nil) (ea_cons ev_c ea_nil) rfl rfl rfl) (ea_cons (ev_callN (ea_cons ev_c ea_nil) (ea_cons ev_c ea_nil) rfl rfl rfl) ea_nil)))) ea_nil) rfl) ea_nil)) ea_nil) rfl)))) rfl

theorem sc_shift_parts : FnScope ["word", "s", "rounds", "told"] ["word", "s"] (defScope s_shift_parts) := ⟨rfl, rfl, rfl, by decide +kernel, rfl, by decide +kernel, by decide +kernel⟩
theorem cal_shift_parts (T : Tx w K mg) : Cal P w K mg base 4 "shift_parts" (PSp K fun ds r => ∃ (k : Sh) (s : Int), ds = [.s k.str, .i s] ∧ r = Tell.dat (shiftT k s)) [] := by
  obtain ⟨fd, F⟩ := T.defn (d := d_shift_parts) 14 rfl
  refine ⟨_, fd, ["word", "s"], [], F.ok (k := 3) sc_shift_parts (fun vs H Q E h => psp_len (n := 2) ?_ h) (fun cdv A outer s H vs Q E hr h => ⟨_, PSs.nox (pss_cons (ps_set (i := 2) sc_shift_parts.nd rfl (Or.inl rfl) (pe_tup (pa_cons pe_str (pa_cons (pe_tup (pa_cons (pv 1) (pa_cons pe_int (pa_cons pe_int pa_nil)))) (pa_cons (pe_tup pa_nil) (pa_cons (pe_op op_catA (pe_c (cal_ahead_of_round T) hr (by decide) (by rfl) (pa_cons (pv 0) pa_nil)) (pe_tup (pa_cons (pe_c (cal_one_place T) hr (by decide) (by rfl) (pa_cons (pv 0) pa_nil)) pa_nil))) pa_nil)))))) (pss_cons (ps_set (i := 3) sc_shift_parts.nd rfl (Or.inl rfl) (pe_op op_catA (pe_c0 (cal_copied T) hr (by decide) (by rfl)) (pe_tup (pa_cons (pe_c (cal_do T) hr (by decide) (by rfl) (pa_cons (pe_tup (pa_cons pe_str (pa_cons pe_int pa_nil))) pa_nil)) (pa_cons (pv 2) pa_nil))))) (pss_cons (ps_if (pt_cmpR op_eq (pv 0) pe_str (nomark _)) (pss_one (ps_ret (pe_op op_catA (pe_op op_catA (pv 3) (pe_c0 (cal_no_marks T) hr (by decide) (by rfl))) (pe_c (cal_ends T) hr (by decide) (by rfl) (pa_cons pe_str (pa_cons pe_int (pa_cons pe_int pa_nil))))))) pss_nil) (pss_one (ps_ret (pe_op op_catA (pe_op op_catA (pe_op op_catA (pv 3) (pe_c (cal_mark_to T) hr (by decide) (by rfl) (pa_cons pe_int pa_nil))) (pe_tup (pa_cons (pe_c (cal_do T) hr (by decide) (by rfl) (pa_cons (pe_tup (pa_cons pe_str (pa_cons (pe_ck (kal_cell_c T) hr (by decide) (by rfl) (pa_cons pe_str pa_nil) (pk_cons pe_int pk_nil)) (pa_cons pe_int pa_nil)))) pa_nil)) pa_nil))) (pe_c (cal_ends T) hr (by decide) (by rfl) (pa_cons pe_str (pa_cons pe_int (pa_cons pe_int pa_nil)))))))))), psp_of (N := ["word", "s", "rounds", "told"]) ?_ h⟩), T.glo 14, F.kp, F.bindsN (fun _ _ _ _ _ _ us hl => match us, hl with | [_, _], _ => rfl), .nil⟩
  · rintro ds r ⟨o, s, rfl, _⟩
    rfl
  · rintro ds r ⟨k, s, rfl, rfl⟩
    cases k with
    | left => exact rs_is (rs_set (ev_tup (ea_cons ev_c (ea_cons (ev_tup (ea_cons (ev_var rfl) (ea_cons ev_c (ea_cons ev_c ea_nil)))) (ea_cons (ev_tup ea_nil) (ea_cons (ev_cat (ev_call (ea_cons (ev_var rfl) ea_nil) ⟨.left, rfl, rfl⟩) (ev_tup (ea_cons (ev_call (ea_cons (ev_var rfl) ea_nil) ⟨.left, rfl, rfl⟩) ea_nil))) ea_nil))))) (rs_set (ev_cat (ev_call ea_nil ⟨rfl, rfl⟩) (ev_tup (ea_cons (ev_call (ea_cons (ev_tup (ea_cons ev_c (ea_cons ev_c ea_nil))) ea_nil) rfl) (ea_cons (ev_var rfl) ea_nil)))) (rs_skip (et_is (et_test (ev_eq (ev_var rfl) ev_c)) (by decide)) (rs_ret (ev_cat (ev_cat (ev_cat (ev_var rfl) (ev_call (ea_cons ev_c ea_nil) rfl)) (ev_tup (ea_cons (ev_call (ea_cons (ev_tup (ea_cons ev_c (ea_cons (ev_callN (ea_cons ev_c ea_nil) (ea_cons ev_c ea_nil) rfl rfl rfl) (ea_cons ev_c ea_nil)))) ea_nil) rfl) ea_nil))) (ev_call (ea_cons ev_c (ea_cons ev_c (ea_cons ev_c ea_nil))) ⟨_, _, rfl, rfl⟩)))))) rfl
    | right => exact rs_is (rs_set (ev_tup (ea_cons ev_c (ea_cons (ev_tup (ea_cons (ev_var rfl) (ea_cons ev_c (ea_cons ev_c ea_nil)))) (ea_cons (ev_tup ea_nil) (ea_cons (ev_cat (ev_call (ea_cons (ev_var rfl) ea_nil) ⟨.right, rfl, rfl⟩) (ev_tup (ea_cons (ev_call (ea_cons (ev_var rfl) ea_nil) ⟨.right, rfl, rfl⟩) ea_nil))) ea_nil))))) (rs_set (ev_cat (ev_call ea_nil ⟨rfl, rfl⟩) (ev_tup (ea_cons (ev_call (ea_cons (ev_tup (ea_cons ev_c (ea_cons ev_c ea_nil))) ea_nil) rfl) (ea_cons (ev_var rfl) ea_nil)))) (rs_skip (et_is (et_test (ev_eq (ev_var rfl) ev_c)) (by decide)) (rs_ret (ev_cat (ev_cat (ev_cat (ev_var rfl) (ev_call (ea_cons ev_c ea_nil) rfl)) (ev_tup (ea_cons (ev_call (ea_cons (ev_tup (ea_cons ev_c (ea_cons (ev_callN (ea_cons ev_c ea_nil) (ea_cons ev_c ea_nil) rfl rfl rfl) (ea_cons ev_c ea_nil)))) ea_nil) rfl) ea_nil))) (ev_call (ea_cons ev_c (ea_cons ev_c (ea_cons ev_c ea_nil))) ⟨_, _, rfl, rfl⟩)))))) rfl
    | down => exact rs_is (rs_set (ev_tup (ea_cons ev_c (ea_cons (ev_tup (ea_cons (ev_var rfl) (ea_cons ev_c (ea_cons ev_c ea_nil)))) (ea_cons (ev_tup ea_nil) (ea_cons (ev_cat (ev_call (ea_cons (ev_var rfl) ea_nil) ⟨.down, rfl, rfl⟩) (ev_tup (ea_cons (ev_call (ea_cons (ev_var rfl) ea_nil) ⟨.down, rfl, rfl⟩) ea_nil))) ea_nil))))) (rs_set (ev_cat (ev_call ea_nil ⟨rfl, rfl⟩) (ev_tup (ea_cons (ev_call (ea_cons (ev_tup (ea_cons ev_c (ea_cons ev_c ea_nil))) ea_nil) rfl) (ea_cons (ev_var rfl) ea_nil)))) (rs_skip (et_is (et_test (ev_eq (ev_var rfl) ev_c)) (by decide)) (rs_ret (ev_cat (ev_cat (ev_cat (ev_var rfl) (ev_call (ea_cons ev_c ea_nil) rfl)) (ev_tup (ea_cons (ev_call (ea_cons (ev_tup (ea_cons ev_c (ea_cons (ev_callN (ea_cons ev_c ea_nil) (ea_cons ev_c ea_nil) rfl rfl rfl) (ea_cons ev_c ea_nil)))) ea_nil) rfl) ea_nil))) (ev_call (ea_cons ev_c (ea_cons ev_c (ea_cons ev_c ea_nil))) ⟨_, _, rfl, rfl⟩)))))) rfl
    | roll => exact rs_is (rs_set (ev_tup (ea_cons ev_c (ea_cons (ev_tup (ea_cons (ev_var rfl) (ea_cons ev_c (ea_cons ev_c ea_nil)))) (ea_cons (ev_tup ea_nil) (ea_cons (ev_cat (ev_call (ea_cons (ev_var rfl) ea_nil) ⟨.roll, rfl, rfl⟩) (ev_tup (ea_cons (ev_call (ea_cons (ev_var rfl) ea_nil) ⟨.roll, rfl, rfl⟩) ea_nil))) ea_nil))))) (rs_set (ev_cat (ev_call ea_nil ⟨rfl, rfl⟩) (ev_tup (ea_cons (ev_call (ea_cons (ev_tup (ea_cons ev_c (ea_cons ev_c ea_nil))) ea_nil) rfl) (ea_cons (ev_var rfl) ea_nil)))) (rs_now (rs_ifT (et_is (et_test (ev_eq (ev_var rfl) ev_c)) (by decide)) (rs_ret (ev_cat (ev_cat (ev_var rfl) (ev_call ea_nil ⟨rfl, rfl⟩)) (ev_call (ea_cons ev_c (ea_cons ev_c (ea_cons ev_c ea_nil))) ⟨_, _, rfl, rfl⟩))))))) rfl
end Ww

set_option Elab.async false
set_option linter.all false
set_option maxRecDepth 100000
set_option maxHeartbeats 4000000
/-! W8a: evaluation over data: all of a comprehension, slices from the second item on. -/
namespace Ww
open PySem PySem.Spec PyProof.Rows L2
/-- a promise: where G holds of the arguments, True -/
abbrev TSp (K : PySem.W.Frag) (G : List D → Prop) : Sp := PSp K fun ds r => G ds ∧ r = .b true
section
variable {K : PySem.W.Frag} {δ : DS} {ta tb te : TE} {ds : List D} {d : D} {b : Bool} {x y : V}
theorem ev_eqB (ha : EvD K ta δ (.v x)) (hb : EvD K tb δ (.v y)) (h : decide (x = y) = b) (hs : scal x y = true := by rfl) : EvD K (tOp rEq ta tb) δ (.b b) := ev_is (ev_eq ha hb hs) (by rw [h])
theorem ev_neB (ha : EvD K ta δ (.v x)) (hb : EvD K tb δ (.v y)) (h : decide (x = y) = b) (hs : scal x y = true := by rfl) : EvD K (tOp rNe ta tb) δ (.b (!b)) := ev_is (ev_ne ha hb hs) (by rw [h])
theorem cut1 {v : V} {vs : List V} : cutV (v :: vs) (some 1) none = vs := by
  unfold cutV
  have e1 : HT.sIx (v :: vs).length 0 (some 1) = 1 := by
    show (if (1 : Int) < 0 then ((1 : Int) + ((vs.length + 1 : Nat) : Int)).toNat else min (1 : Int).toNat (vs.length + 1)) = 1
    rw [if_neg (by omega)]
    show min 1 (vs.length + 1) = 1
    omega
  rw [e1]
  show (vs.take ((vs.length + 1) - 1)) = vs
  rw [Nat.add_sub_cancel, List.take_length]
/-- t[1:] -/
theorem ev_slice1 (h : EvD K te δ (.t (d :: ds))) : EvD K (tSl (rSlA K) te (tPart (tC (.int 1))) tNoPart) δ (.t ds) := fun σ H Q F q =>
  h σ H _ F fun v H1 e1 r1 => by
    obtain ⟨p, vs, rfl, hs, rl⟩ := r1.tup
    cases rl with
    | @cons v0 _ vs0 _ h0 rl0 =>
      refine ⟨1, rfl, p, _, rfl, hs, fun hw => ?_, fun _ l hl => ?_⟩
      · have e1 : HT.sIx (v0 :: vs0).length 0 (some 1) = 1 := by
          show (if (1 : Int) < 0 then ((1 : Int) + ((vs0.length + 1 : Nat) : Int)).toNat else min (1 : Int).toNat (vs0.length + 1)) = 1
          rw [if_neg (by omega)]
          show min 1 (vs0.length + 1) = 1
          omega
        rw [e1] at hw
        exact absurd hw.1 (by omega)
      · rw [cut1]
        exact q _ _ (e1.trans (Same.new hl)) (.of upd_same (rl0.same (Same.new hl)))
theorem same_upd2 {H H2 : Hp} {D0 : Addr} {o : HO} (e : Same H H2) (h : H D0 = none) : Same H (upd H2 D0 o) := fun a u q => by
  rw [upd_ne (ne_of_none q h)]
  exact e a u q
/-- all([e for x in t]), each e True -/
theorem ev_all {i : Nat} {src : TE} (hs : EvD K src δ (.t ds)) (hl : ds.length ≤ 100000) (he : ∀ d ∈ ds, EvD K te ((δ.set i none).set i (some d)) (.b true)) :
    EvD K (tCB (rAll K) (tCons (tLc (iTup K src) (gName i) tYes te [i]) tNil)) δ (.b true) := fun σ H Q F q => by
  refine hs σ H _ F fun v H1 e1 r1 => ?_
  obtain ⟨p, vs, rfl, hsq, rl⟩ := r1.tup
  refine ⟨p, rfl, ⟨vs, hsq⟩, fun D0 hD => ?_⟩
  refine lc_tup (K := K) (a := p) (xs := vs) (vs := [i]) (σ := σ) (fun j H' => Same H1 H' ∧ H' D0 = some (.lst ((List.replicate j true).map V.bl)) ∧ H1 D0 = none ∧ j ≤ vs.length) ⟨same_upd2 (Same.refl _) hD, upd_same, hD, Nat.zero_le _⟩ (fun j H' _ z => (Stay.same z.1).seqT hsq) ?_ ?_
  · rintro j y H2 hy ⟨s2, hd2, _, hj⟩
    obtain ⟨d, hd, rd⟩ := rl.get' hy
    have hm : d ∈ ds := List.mem_of_getElem? hd
    refine ⟨?_, ?_⟩
    · show ((σ.set i none).set i (some y)).set i none = σ.set i none
      rw [List.set_set, List.set_set]
    · have F2 : FrD K H2 ((σ.set i none).set i (some y)) ((δ.set i none).set i (some d)) := (((F.same e1).same s2).setNone i).set (rd.same s2) i
      show te ((σ.set i none).set i (some y)) H2 _
      refine he d hm _ H2 _ F2 fun z H3 e3 r3 => ?_
      cases r3.val
      have hlen : vs.length ≤ 100000 := by rw [rl.length]; exact hl
      refine ⟨_, e3 _ _ hd2, ?_, same_upd2 (s2.trans e3) hD, ?_, hD, ?_⟩
      · rw [List.length_map, List.length_replicate]
        exact Nat.lt_of_le_of_lt (Nat.le_trans hj hlen) (by decide)
      · rw [upd_same]
        rw [show List.replicate (j + 1) true = List.replicate j true ++ [true] from List.replicate_succ', List.map_append]
        rfl
      · have := (List.getElem?_eq_some_iff.mp hy).1
        omega
  · rintro H2 ⟨s2, hd2, _, _⟩
    refine ⟨D0, List.replicate vs.length true, rfl, SqL.of hd2, ?_⟩
    have ea : (List.replicate vs.length true).all id = true := by
      rw [List.all_eq_true]
      intro z hz
      rw [(List.mem_replicate.mp hz).2]
      rfl
    rw [ea]
    exact q _ H2 (e1.trans s2) (.v _)
end
end Ww
namespace Ww
open PySem PySem.Spec PyProof.Rows L2
section
variable {K : PySem.W.Frag} {δ : DS} {ta tb te : TE} {b : Bool} {n m : Int}
theorem ev_ltB (ha : EvD K ta δ (.i n)) (hb : EvD K tb δ (.i m)) (h : decide (n < m) = b) : EvD K (tOp (rI0 fun i j => .bl (decide (i < j))) ta tb) δ (.b b) := ev_is (ev_int0 ha hb) (by show D.b (decide (n < m)) = _; rw [h])
theorem ev_leB (ha : EvD K ta δ (.i n)) (hb : EvD K tb δ (.i m)) (h : decide (n ≤ m) = b) : EvD K (tOp (rI0 fun i j => .bl (decide (i ≤ j))) ta tb) δ (.b b) := ev_is (ev_int0 ha hb) (by show D.b (decide (n ≤ m)) = _; rw [h])
theorem ev_gtB (ha : EvD K ta δ (.i n)) (hb : EvD K tb δ (.i m)) (h : decide (m < n) = b) : EvD K (tOp (rI0 fun i j => .bl (decide (j < i))) ta tb) δ (.b b) := ev_is (ev_int0 ha hb) (by show D.b (decide (m < n)) = _; rw [h])
theorem ev_geB (ha : EvD K ta δ (.i n)) (hb : EvD K tb δ (.i m)) (h : decide (m ≤ n) = b) : EvD K (tOp (rI0 fun i j => .bl (decide (j ≤ i))) ta tb) δ (.b b) := ev_is (ev_int0 ha hb) (by show D.b (decide (m ≤ n)) = _; rw [h])
theorem ev_inTB {neg : Bool} {x : V} {xs : List V} (ha : EvD K ta δ (.v x)) (hb : EvD K tb δ (.t (xs.map D.v))) (hx : flatV x = true) (hf : xs.all flatV = true) (h : (if neg then !inV x xs else inV x xs) = b) : EvD K (tOp (rIn K neg) ta tb) δ (.b b) := ev_is (ev_inT ha hb hx hf) (by rw [h])
theorem ev_inS {i j : Str} {r2 : R2} (ha : EvD K ta δ (.s i)) (hb : EvD K tb δ (.s j)) (h : (!(Builtin.Str.occurrences j i 0 j.length 1).isEmpty) = b) (hr : r2 = fun x y H Q => ∃ i j, x = .str i ∧ y = .str j ∧ Q (.bl (!(Builtin.Str.occurrences j i 0 j.length 1).isEmpty)) H := by rfl) : EvD K (tOp r2 ta tb) δ (.b b) := by
  subst hr
  exact ev_op ha hb fun H Q q => ⟨i, j, rfl, rfl, by rw [h]; exact q⟩
theorem ev_abs {r : List V → Hp → VK → Prop} (ha : EvD K ta δ (.i n)) (hr : r = fun xs H Q => ∃ i, xs = [.int i] ∧ Q (.int (if i < 0 then -i else i)) H := by rfl) : EvD K (tCB r (tCons ta tNil)) δ (.i (if n < 0 then -n else n)) := by
  subst hr
  intro σ H Q F q
  refine ha σ H _ F fun v H1 e1 r1 => ?_
  cases r1.val
  exact ⟨n, rfl, q _ H1 e1 (.v _)⟩
theorem all_callL {i : Nat} {f : Addr} {x : V} : True := trivial
end
end Ww
namespace Ww
open PySem PySem.Spec PyProof.Rows L2
/-- an if over a bool's value: the way that is taken -/
theorem rs_B {K : PySem.W.Frag} {δ : DS} {te : TE} {b : Bool} {t u : L2.TS} (h : EvD K te δ (.b b)) : ∀ (σ : L2.St) (H : Hp) (E : Ends), FrD K H σ δ → (∀ H2, Same H H2 → (match b with | true => t E σ H2 | false => u E σ H2)) → tIfS (tB te) t u E σ H := fun σ H E F q => by
  refine h σ H _ F fun v H1 e1 r1 => ?_
  cases r1.val
  refine ⟨b, rfl, ?_⟩
  cases b with
  | true => exact iteT (q H1 e1)
  | false => exact iteF (q H1 e1)
end Ww

set_option Elab.async false
set_option linter.all false
set_option maxRecDepth 100000
set_option maxHeartbeats 4000000
/-! W8: the lookers, rows and deeds (printed from W8.src by gen1.py). -/
namespace Ww
open PySem PySem.Spec PyProof.Rows L2
open C8 (Cal CalAt Met Mak pe_c pe_mk pe_mt pe_mt0)
variable {P : Program} {w : World} {K : PySem.W.Frag} {mg : Str → Option Value} {base : Heap}

theorem sc_is_whole : FnScope ["thing"] ["thing"] (defScope s_is_whole) := ⟨rfl, rfl, rfl, by decide +kernel, rfl, by decide +kernel, by decide +kernel⟩
theorem cal_is_whole (T : Tx w K mg) : Cal P w K mg base 1 "is_whole" (TSp K fun ds => ∃ n, ds = [.i n]) [] := by
  obtain ⟨fd, F⟩ := T.defn (d := d_is_whole) 15 rfl
  refine ⟨_, fd, ["thing"], [], F.ok (k := 0) sc_is_whole (fun vs H Q E h => psp_len (n := 1) ?_ h) (fun cdv A outer s H vs Q E hr h => ⟨_, PSs.nox (pss_one (ps_ret (pe_and (pe_callB call_isi (by rfl) (T.free 65) (by decide +kernel) (pa_cons (pv 0) (pa_cons (pe_bltn (v := .ty "int") (by rfl) (T.free 66) (by decide +kernel) rfl) pa_nil))) (pe_one (pe_not (pe_callB call_isi (by rfl) (T.free 65) (by decide +kernel) (pa_cons (pv 0) (pa_cons (pe_bltn (v := .ty "bool") (by rfl) (T.free 68) (by decide +kernel) rfl) pa_nil)))))))), psp_of (N := ["thing"]) ?_ h⟩), T.glo 15, F.kp, F.bindsN (fun _ _ _ _ _ _ us hl => match us, hl with | [_], _ => rfl), .nil⟩
  · rintro ds r ⟨⟨n, rfl⟩, _⟩
    rfl
  · rintro ds r ⟨⟨n, rfl⟩, rfl⟩
    exact (rs_ret (ev_and (isi_int (T := "int") (b := true) (ev_var rfl)) (ev_not (b := false) (isi_int (T := "bool") (b := false) (ev_var rfl)))))

theorem sc_is_letter : FnScope ["thing"] ["thing"] (defScope s_is_letter) := ⟨rfl, rfl, rfl, by decide +kernel, rfl, by decide +kernel, by decide +kernel⟩
theorem cal_is_letter (T : Tx w K mg) : Cal P w K mg base 1 "is_letter" (TSp K fun ds => ∃ l : Lt, ds = [.s l.str]) [] := by
  obtain ⟨fd, F⟩ := T.defn (d := d_is_letter) 16 rfl
  refine ⟨_, fd, ["thing"], [], F.ok (k := 0) sc_is_letter (fun vs H Q E h => psp_len (n := 1) ?_ h) (fun cdv A outer s H vs Q E hr h => ⟨_, PSs.nox (pss_one (ps_ret (pe_and (pe_callB call_isi (by rfl) (T.free 65) (by decide +kernel) (pa_cons (pv 0) (pa_cons (pe_bltn (v := .ty "str") (by rfl) (T.free 67) (by decide +kernel) rfl) pa_nil))) (pe_and (pe_cmpR op_eq (pe_callB call_len_str (by rfl) (T.free 63) PySem.boot_len (pa_cons (pv 0) pa_nil)) pe_int (nomark _)) (pe_one (pe_cmpR op_in_str (pv 0) (pe_globS rfl (T.str 78)) (by rfl))))))), psp_of (N := ["thing"]) ?_ h⟩), T.glo 16, F.kp, F.bindsN (fun _ _ _ _ _ _ us hl => match us, hl with | [_], _ => rfl), .nil⟩
  · rintro ds r ⟨⟨n, rfl⟩, _⟩
    rfl
  · rintro ds r ⟨⟨l, rfl⟩, rfl⟩
    cases l <;> refine (rs_ret (ev_and (isi_str (T := "str") (b := true) (ev_var rfl)) (ev_and (ev_eqB (b := true) (ev_lenS (ev_var rfl) (by decide) rfl) ev_c (by decide)) (ev_inS (ev_var rfl) ev_c ?_)))) <;> decide +kernel

theorem sc_is_place : FnScope ["thing"] ["thing"] (defScope s_is_place) := ⟨rfl, rfl, rfl, by decide +kernel, rfl, by decide +kernel, by decide +kernel⟩
theorem cal_is_place (T : Tx w K mg) : Cal P w K mg base 2 "is_place" (TSp K fun ds => ∃ n, ds = [.i n] ∧ place n) [] := by
  obtain ⟨fd, F⟩ := T.defn (d := d_is_place) 17 rfl
  refine ⟨_, fd, ["thing"], [], F.ok (k := 1) sc_is_place (fun vs H Q E h => psp_len (n := 1) ?_ h) (fun cdv A outer s H vs Q E hr h => ⟨_, PSs.nox (pss_one (ps_ret (pe_and (pe_c (cal_is_whole T) hr (by decide) (by rfl) (pa_cons (pv 0) pa_nil)) (pe_one (pe_chain op_le op_le pe_int (pv 0) pe_int))))), psp_of (N := ["thing"]) ?_ h⟩), T.glo 17, F.kp, F.bindsN (fun _ _ _ _ _ _ us hl => match us, hl with | [_], _ => rfl), .nil⟩
  · rintro ds r ⟨⟨n, rfl, _⟩, _⟩
    rfl
  · rintro ds r ⟨⟨n, rfl, h1, h2⟩, rfl⟩
    refine (rs_ret (ev_and (ev_call (ea_cons (ev_var rfl) ea_nil) ⟨?_, rfl⟩) (ev_chain ev_c (ev_var rfl) ev_c (le_t (by omega)) (le_t (by omega)))))
    exact ⟨_, rfl⟩

theorem sc_is_digit : FnScope ["thing"] ["thing"] (defScope s_is_digit) := ⟨rfl, rfl, rfl, by decide +kernel, rfl, by decide +kernel, by decide +kernel⟩
theorem cal_is_digit (T : Tx w K mg) : Cal P w K mg base 2 "is_digit" (TSp K fun ds => ∃ n, ds = [.i n] ∧ dig n) [] := by
  obtain ⟨fd, F⟩ := T.defn (d := d_is_digit) 21 rfl
  refine ⟨_, fd, ["thing"], [], F.ok (k := 1) sc_is_digit (fun vs H Q E h => psp_len (n := 1) ?_ h) (fun cdv A outer s H vs Q E hr h => ⟨_, PSs.nox (pss_one (ps_ret (pe_and (pe_c (cal_is_whole T) hr (by decide) (by rfl) (pa_cons (pv 0) pa_nil)) (pe_one (pe_chain op_le op_le pe_int (pv 0) pe_int))))), psp_of (N := ["thing"]) ?_ h⟩), T.glo 21, F.kp, F.bindsN (fun _ _ _ _ _ _ us hl => match us, hl with | [_], _ => rfl), .nil⟩
  · rintro ds r ⟨⟨n, rfl, _⟩, _⟩
    rfl
  · rintro ds r ⟨⟨n, rfl, h1, h2⟩, rfl⟩
    refine (rs_ret (ev_and (ev_call (ea_cons (ev_var rfl) ea_nil) ⟨?_, rfl⟩) (ev_chain ev_c (ev_var rfl) ev_c (le_t (by omega)) (le_t (by omega)))))
    exact ⟨_, rfl⟩

theorem sc_is_within : FnScope ["thing", "least", "most"] ["thing", "least", "most"] (defScope s_is_within) := ⟨rfl, rfl, rfl, by decide +kernel, rfl, by decide +kernel, by decide +kernel⟩
theorem cal_is_within (T : Tx w K mg) : Cal P w K mg base 2 "is_within" (TSp K fun ds => ∃ n a b, ds = [.i n, .i a, .i b] ∧ a ≤ n ∧ n ≤ b) [] := by
  obtain ⟨fd, F⟩ := T.defn (d := d_is_within) 24 rfl
  refine ⟨_, fd, ["thing", "least", "most"], [], F.ok (k := 1) sc_is_within (fun vs H Q E h => psp_len (n := 3) ?_ h) (fun cdv A outer s H vs Q E hr h => ⟨_, PSs.nox (pss_one (ps_ret (pe_and (pe_c (cal_is_whole T) hr (by decide) (by rfl) (pa_cons (pv 0) pa_nil)) (pe_one (pe_chain op_le op_le (pv 1) (pv 0) (pv 2)))))), psp_of (N := ["thing", "least", "most"]) ?_ h⟩), T.glo 24, F.kp, F.bindsN (fun _ _ _ _ _ _ us hl => match us, hl with | [_, _, _], _ => rfl), .nil⟩
  · rintro ds r ⟨⟨n, a, b, rfl, _⟩, _⟩
    rfl
  · rintro ds r ⟨⟨n, a, b, rfl, h1, h2⟩, rfl⟩
    refine (rs_ret (ev_and (ev_call (ea_cons (ev_var rfl) ea_nil) ⟨?_, rfl⟩) (ev_chain (ev_var rfl) (ev_var rfl) (ev_var rfl) (le_t (by omega)) (le_t (by omega)))))
    exact ⟨_, rfl⟩

theorem sc_are_numbers : FnScope ["thing", "many", "part"] ["thing", "many"] (defScope s_are_numbers) := ⟨rfl, rfl, rfl, by decide +kernel, rfl, by decide +kernel, by decide +kernel⟩
theorem cal_are_numbers (T : Tx w K mg) : Cal P w K mg base 2 "are_numbers" (TSp K fun ds => ∃ (ns : List Int), ds = [.t (ns.map D.i), .i ns.length] ∧ ns.length ≤ 100 ∧ ∀ k ∈ ns, bound k) [] := by
  obtain ⟨fd, F⟩ := T.defn (d := d_are_numbers) 18 rfl
  refine ⟨_, fd, ["thing", "many"], [], F.ok (k := 1) sc_are_numbers (fun vs H Q E h => psp_len (n := 2) ?_ h) (fun cdv A outer s H vs Q E hr h => ⟨_, PSs.nox (pss_cons (ps_if (PW.pt (pw_or (pt_not (pt_val (pe_callB call_isi (by rfl) (T.free 65) (by decide +kernel) (pa_cons (pv 0) (pa_cons (pe_bltn (v := .ty "tuple") (by rfl) (T.free 69) (by decide +kernel) rfl) pa_nil))))) (pw_or1 (pt_cmpR op_ne (pe_callB call_len_seq (by rfl) (T.free 63) PySem.boot_len (pa_cons (pv 0) pa_nil)) (pv 1) (nomark _))))) (pss_one (ps_ret pe_bl)) pss_nil) (pss_one (ps_ret (pe_callB (cr_all rfl) (by rfl) (T.free 64) (by decide +kernel) (pa_cons (pe_lc (own := [("part", 2)]) (g := gName 2) (tt := tYes) rfl sc_are_numbers.nd (pi_tup (pv 0)) (blkOk_by (N := ["thing", "many", "part"]) (sc := defScope s_are_numbers) (by decide +kernel)) (fun _ _ _ _ _ => pg_name (i := 2) sc_are_numbers.nd rfl (Or.inl rfl)) (fun _ _ _ _ _ => pts_nil) (fun _ _ _ _ _ => (pe_and (pe_c (cal_is_whole T) hr (by decide) (by rfl) (pa_cons (pv 2) pa_nil)) (pe_one (pe_chain op_le op_le (pe_un un_neg (pe_globI rfl (T.int 74))) (pv 2) (pe_globI rfl (T.int 74))))))) pa_nil))))), psp_of (N := ["thing", "many", "part"]) ?_ h⟩), T.glo 18, F.kp, F.bindsN (fun _ _ _ _ _ _ us hl => match us, hl with | [_, _], _ => rfl), .nil⟩
  · rintro ds r ⟨⟨n, rfl, _⟩, _⟩
    rfl
  · rintro ds r ⟨⟨ns, rfl, hl, hb⟩, rfl⟩
    refine rs_skip (et_or (et_not (et_B (isi_tup (T := "tuple") (b := true) (ev_var rfl)))) (et_test (ev_neB (ev_len (n := (ns.length : Int)) (ev_var rfl) (by rw [List.length_map])) (ev_var rfl) (decide_eq_true rfl)))) (rs_ret (ev_all (ev_var rfl) (by rw [List.length_map]; omega) ?_))
    intro d hd
    obtain ⟨k, hk, rfl⟩ := List.mem_map.mp hd
    obtain ⟨h1, h2⟩ := hb k hk
    refine ev_and (ev_call (ea_cons (ev_var rfl) ea_nil) ⟨⟨_, rfl⟩, rfl⟩) (ev_chain (ev_un ev_c) (ev_var rfl) ev_c (le_t (by omega)) (le_t (by omega)))

theorem sc_is_index : FnScope ["thing"] ["thing"] (defScope s_is_index) := ⟨rfl, rfl, rfl, by decide +kernel, rfl, by decide +kernel, by decide +kernel⟩
theorem cal_is_index (T : Tx w K mg) : Cal P w K mg base 3 "is_index" (TSp K fun ds => ∃ x : Ix, ds = [x.d] ∧ x.ok) [] := by
  obtain ⟨fd, F⟩ := T.defn (d := d_is_index) 19 rfl
  refine ⟨_, fd, ["thing"], [], F.ok (k := 2) sc_is_index (fun vs H Q E h => psp_len (n := 1) ?_ h) (fun cdv A outer s H vs Q E hr h => ⟨_, PSs.nox (pss_one (ps_ret (pe_c (cal_are_numbers T) hr (by decide) (by rfl) (pa_cons (pv 0) (pa_cons pe_int pa_nil))))), psp_of (N := ["thing"]) ?_ h⟩), T.glo 19, F.kp, F.bindsN (fun _ _ _ _ _ _ us hl => match us, hl with | [_], _ => rfl), .nil⟩
  · rintro ds r ⟨⟨n, rfl, _⟩, _⟩
    rfl
  · rintro ds r ⟨⟨x, rfl, h1, h2, h3, h4⟩, rfl⟩
    refine (rs_ret (ev_call (ea_cons (ev_var rfl) (ea_cons ev_c ea_nil)) ⟨?_, rfl⟩))
    refine ⟨[x.c, x.i, x.j, x.m], rfl, by simp, ?_⟩
    intro k hk
    simp at hk
    rcases hk with rfl | rfl | rfl | rfl <;> assumption
end Ww

set_option Elab.async false
set_option linter.all false
set_option maxRecDepth 100000
set_option maxHeartbeats 4000000
/-! W9: rows looked at; deeds (printed from W9.src by gen1.py). -/
namespace Ww
open PySem PySem.Spec PyProof.Rows L2
open C8 (Cal CalAt Met Mak pe_c pe_mk pe_mt pe_mt0)
variable {P : Program} {w : World} {K : PySem.W.Frag} {mg : Str → Option Value} {base : Heap}
theorem cal_at {k : Nat} {x : Str} {sp : Sp} {a : Addr} (c : Cal P w K mg base k x sp []) (h : mg x = some (.ref a)) : CalAt P w K mg base k a sp := by
  obtain ⟨f, fd, ps, ds, F, hm, kp, b, d⟩ := c.ex
  rw [hm] at h
  cases h
  cases d
  exact ⟨fd, ps, F, kp, b⟩
theorem at_is_place (T : Tx w K mg) : CalAt P w K mg base 2 (He.ga K "is_place") (TSp K fun ds => ∃ n, ds = [.i n] ∧ place n) := cal_at (cal_is_place T) (T.glo 17)
theorem at_is_index (T : Tx w K mg) : CalAt P w K mg base 3 (He.ga K "is_index") (TSp K fun ds => ∃ x : Ix, ds = [x.d] ∧ x.ok) := cal_at (cal_is_index T) (T.glo 19)
abbrev G_cell (K : PySem.W.Frag) (ds : List D) : Prop := (∃ x : Cl Int, ds = [x.d D.i, .v (.ref (He.ga K "is_place"))] ∧ place x.p) ∨ (∃ x : Cl Ix, ds = [x.d Ix.d, .v (.ref (He.ga K "is_index"))] ∧ x.p.ok)
abbrev G_rowby (K : PySem.W.Frag) (ds : List D) : Prop := (∃ x : RowP, ds = [x.dat, .v (.ref (He.ga K "is_place"))] ∧ Row.ok place x) ∨ (∃ x : RowI, ds = [x.dat, .v (.ref (He.ga K "is_index"))] ∧ x.ok)
theorem tsp_or {G1 G2 : List D → Prop} {vs : List V} {H : Hp} {Q : VK} {E : XK} (h : TSp K (fun ds => G1 ds ∨ G2 ds) vs H Q E) : TSp K G1 vs H Q E ∨ TSp K G2 vs H Q E := by
  obtain ⟨ds, r, r1, ⟨g | g, er⟩, k⟩ := h
  · exact .inl ⟨ds, r, r1, ⟨g, er⟩, k⟩
  · exact .inr ⟨ds, r, r1, ⟨g, er⟩, k⟩

theorem sc_is_cell : FnScope ["thing", "placed"] ["thing", "placed"] (defScope s_is_cell) := ⟨rfl, rfl, rfl, by decide +kernel, rfl, by decide +kernel, by decide +kernel⟩
theorem cal_is_cell (T : Tx w K mg) : Cal P w K mg base 4 "is_cell" (TSp K (G_cell K)) [] := by
  obtain ⟨fd, F⟩ := T.defn (d := d_is_cell) 20 rfl
  refine ⟨_, fd, ["thing", "placed"], [], F.ok (k := 3) sc_is_cell (fun vs H Q E h => psp_len (n := 2) ?_ h) (fun cdv A outer s H vs Q E hr h => ?_), T.glo 20, F.kp, F.bindsN (fun _ _ _ _ _ _ us hl => match us, hl with | [_, _], _ => rfl), .nil⟩
  · rintro ds r ⟨⟨n, rfl, _⟩ | ⟨n, rfl, _⟩, _⟩ <;> rfl
  · rcases tsp_or h with h | h
    · have c_placed := at_is_place (P := P) (base := base) T
      refine ⟨_, PSs.nox (pss_one (ps_ret (pe_and (pe_callB call_isi (by rfl) (T.free 65) (by decide +kernel) (pa_cons (pv 0) (pa_cons (pe_bltn (v := .ty "tuple") (by rfl) (T.free 69) (by decide +kernel) rfl) pa_nil))) (pe_and (pe_cmpR op_eq (pe_callB call_len_seq (by rfl) (T.free 63) PySem.boot_len (pa_cons (pv 0) pa_nil)) pe_int (nomark _)) (pe_and (pe_c (cal_is_letter T) hr (by decide) (by rfl) (pa_cons (pe_ix ix_tup (pv 0) pe_int (fun _ _ => rfl)) pa_nil)) (pe_one (pe_callLA c_placed hr (by decide) rfl (by first | exact Or.inl rfl | exact Or.inr (Or.inl rfl) | exact Or.inr (Or.inr rfl)) (i := 1) (pa_cons (pe_ix ix_tup (pv 0) pe_int (fun _ _ => rfl)) pa_nil)))))))), psp_of (N := ["thing", "placed"]) ?_ h⟩
      rintro ds r ⟨⟨x, rfl, hp⟩, rfl⟩
      refine (rs_ret (ev_and (isi_tup (T := "tuple") (b := true) (ev_var rfl)) (ev_and (ev_eqB (b := true) (ev_len (n := 2) (ev_var rfl) rfl) ev_c (by decide)) (ev_and (ev_call (ea_cons (ev_ixn (ev_var rfl) rfl) ea_nil) ⟨?_, rfl⟩) (ev_callL rfl (ea_cons (ev_ixn (ev_var rfl) rfl) ea_nil) ⟨?_, rfl⟩)))))
      · exact ⟨_, rfl⟩
      · exact ⟨_, rfl, hp⟩
    · have c_placed := at_is_index (P := P) (base := base) T
      refine ⟨_, PSs.nox (pss_one (ps_ret (pe_and (pe_callB call_isi (by rfl) (T.free 65) (by decide +kernel) (pa_cons (pv 0) (pa_cons (pe_bltn (v := .ty "tuple") (by rfl) (T.free 69) (by decide +kernel) rfl) pa_nil))) (pe_and (pe_cmpR op_eq (pe_callB call_len_seq (by rfl) (T.free 63) PySem.boot_len (pa_cons (pv 0) pa_nil)) pe_int (nomark _)) (pe_and (pe_c (cal_is_letter T) hr (by decide) (by rfl) (pa_cons (pe_ix ix_tup (pv 0) pe_int (fun _ _ => rfl)) pa_nil)) (pe_one (pe_callLA c_placed hr (by decide) rfl (by first | exact Or.inl rfl | exact Or.inr (Or.inl rfl) | exact Or.inr (Or.inr rfl)) (i := 1) (pa_cons (pe_ix ix_tup (pv 0) pe_int (fun _ _ => rfl)) pa_nil)))))))), psp_of (N := ["thing", "placed"]) ?_ h⟩
      rintro ds r ⟨⟨x, rfl, hp⟩, rfl⟩
      refine (rs_ret (ev_and (isi_tup (T := "tuple") (b := true) (ev_var rfl)) (ev_and (ev_eqB (b := true) (ev_len (n := 2) (ev_var rfl) rfl) ev_c (by decide)) (ev_and (ev_call (ea_cons (ev_ixn (ev_var rfl) rfl) ea_nil) ⟨?_, rfl⟩) (ev_callL rfl (ea_cons (ev_ixn (ev_var rfl) rfl) ea_nil) ⟨?_, rfl⟩)))))
      · exact ⟨_, rfl⟩
      · exact ⟨_, rfl, hp⟩

theorem takes_one (T : Tx w K mg) (o : One) : ∃ u, PySem.W.nsIn K (He.ga K "TAKES") o.str = some (some u) ∧ RelV (.int 2) u := by
  cases o
  · exact T.takes (q := ("move", .int 2)) (List.mem_of_getElem? (i := 0) rfl)
  · exact T.takes (q := ("twice", .int 2)) (List.mem_of_getElem? (i := 2) rfl)
  · exact T.takes (q := ("half", .int 2)) (List.mem_of_getElem? (i := 3) rfl)
theorem takes_two (T : Tx w K mg) (o : Two) : ∃ u, PySem.W.nsIn K (He.ga K "TAKES") o.str = some (some u) ∧ RelV (.int 3) u := by
  cases o
  · exact T.takes (q := ("sum", .int 3)) (List.mem_of_getElem? (i := 4) rfl)
  · exact T.takes (q := ("less", .int 3)) (List.mem_of_getElem? (i := 5) rfl)
  · exact T.takes (q := ("both", .int 3)) (List.mem_of_getElem? (i := 6) rfl)
  · exact T.takes (q := ("any", .int 3)) (List.mem_of_getElem? (i := 7) rfl)
  · exact T.takes (q := ("odd", .int 3)) (List.mem_of_getElem? (i := 8) rfl)

theorem sc_is_row_by : FnScope ["thing", "placed", "part"] ["thing", "placed"] (defScope s_is_row_by) := ⟨rfl, rfl, rfl, by decide +kernel, rfl, by decide +kernel, by decide +kernel⟩
theorem cal_is_row_by (T : Tx w K mg) : Cal P w K mg base 5 "is_row_by" (TSp K (G_rowby K)) [] := by
  obtain ⟨fd, F⟩ := T.defn (d := d_is_row_by) 22 rfl
  obtain ⟨esT, nT, kTAKES⟩ := T.tab (t := (fun K => He.ga K "TAKES", _)) 0 rfl
  refine ⟨_, fd, ["thing", "placed"], [], F.ok (k := 4) sc_is_row_by (fun vs H Q E h => psp_len (n := 2) ?_ h) (fun cdv A outer s H vs Q E hr h => ⟨_, PSs.nox (pss_cons (ps_if (PW.pt (pw_or (pt_not (pt_val (pe_callB call_isi (by rfl) (T.free 65) (by decide +kernel) (pa_cons (pv 0) (pa_cons (pe_bltn (v := .ty "tuple") (by rfl) (T.free 69) (by decide +kernel) rfl) pa_nil))))) (pw_or (pt_cmpR op_lt (pe_callB call_len_seq (by rfl) (T.free 63) PySem.boot_len (pa_cons (pv 0) pa_nil)) pe_int (nomark _)) (pw_or1 (pt_not (pt_val (pe_callB call_isi (by rfl) (T.free 65) (by decide +kernel) (pa_cons (pe_ix ix_tup (pv 0) pe_int (fun _ _ => rfl)) (pa_cons (pe_bltn (v := .ty "str") (by rfl) (T.free 67) (by decide +kernel) rfl) pa_nil))))))))) (pss_one (ps_ret pe_bl)) pss_nil) (pss_cons (ps_if (pt_cmpR op_eq (pe_ix ix_tup (pv 0) pe_int (fun _ _ => rfl)) pe_str (nomark _)) (pss_one (ps_ret (pe_and (pe_cmpR op_eq (pe_callB call_len_seq (by rfl) (T.free 63) PySem.boot_len (pa_cons (pv 0) pa_nil)) pe_int (nomark _)) (pe_one (pe_c (cal_is_digit T) hr (by decide) (by rfl) (pa_cons (pe_ix ix_tup (pv 0) pe_int (fun _ _ => rfl)) pa_nil)))))) pss_nil) (pss_cons (ps_if (pt_cmpR op_eq (pe_ix ix_tup (pv 0) pe_int (fun _ _ => rfl)) pe_str (nomark _)) (pss_one (ps_ret (pe_and (pe_cmpR op_eq (pe_callB call_len_seq (by rfl) (T.free 63) PySem.boot_len (pa_cons (pv 0) pa_nil)) pe_int (nomark _)) (pe_one (pe_c (cal_is_cell T) hr (by decide) (by rfl) (pa_cons (pe_ix ix_tup (pv 0) pe_int (fun _ _ => rfl)) (pa_cons (pv 1) pa_nil))))))) pss_nil) (pss_cons (ps_if (pt_cmpR op_eq (pe_ix ix_tup (pv 0) pe_int (fun _ _ => rfl)) pe_str (nomark _)) (pss_one (ps_ret (pe_and (pe_cmpR op_eq (pe_callB call_len_seq (by rfl) (T.free 63) PySem.boot_len (pa_cons (pv 0) pa_nil)) pe_int (nomark _)) (pe_and (pe_c (cal_is_cell T) hr (by decide) (by rfl) (pa_cons (pe_ix ix_tup (pv 0) pe_int (fun _ _ => rfl)) (pa_cons (pv 1) pa_nil))) (pe_one (pe_c (cal_is_digit T) hr (by decide) (by rfl) (pa_cons (pe_ix ix_tup (pv 0) pe_int (fun _ _ => rfl)) pa_nil))))))) pss_nil) (pss_cons (ps_if (PW.pt (pw_or (pt_cmpR op_ne (pe_kget kTAKES (by rfl) (T.glo 59) (pe_ix ix_tup (pv 0) pe_int (fun _ _ => rfl)) pe_int) (pe_op op_sub (pe_callB call_len_seq (by rfl) (T.free 63) PySem.boot_len (pa_cons (pv 0) pa_nil)) pe_int) (nomark _)) (pw_or1 (pt_not (pt_val (pe_callB (cr_all rfl) (by rfl) (T.free 64) (by decide +kernel) (pa_cons (pe_lc (own := [("part", 2)]) (g := gName 2) (tt := tYes) rfl sc_is_row_by.nd (pi_tup (pe_slice sl_tupA (pv 0) (po_some pe_int) po_none)) (blkOk_by (N := ["thing", "placed", "part"]) (sc := defScope s_is_row_by) (by decide +kernel)) (fun _ _ _ _ _ => pg_name (i := 2) sc_is_row_by.nd rfl (Or.inl rfl)) (fun _ _ _ _ _ => pts_nil) (fun _ _ _ _ _ => (pe_c (cal_is_cell T) hr (by decide) (by rfl) (pa_cons (pv 2) (pa_cons (pv 1) pa_nil))))) pa_nil))))))) (pss_one (ps_ret pe_bl)) pss_nil) (pss_one (ps_ret (pe_or (pe_cmpR op_ne (pe_ix ix_tup (pv 0) pe_int (fun _ _ => rfl)) pe_str (nomark _)) (pe_one (pe_cmpR op_ne (pe_ix ix_tup (pv 0) pe_int (fun _ _ => rfl)) (pe_ix ix_tup (pv 0) pe_int (fun _ _ => rfl)) (nomark _))))))))))), psp_of (N := ["thing", "placed", "part"]) ?_ h⟩), T.glo 22, F.kp, F.bindsN (fun _ _ _ _ _ _ us hl => match us, hl with | [_, _], _ => rfl), .nil⟩
  · rintro ds r ⟨⟨n, rfl, _⟩ | ⟨n, rfl, _⟩, _⟩ <;> rfl
  · rintro ds r ⟨⟨x, rfl, hp⟩ | ⟨x, rfl, hp⟩, rfl⟩
    · cases x with
      | mark d =>
        refine (rs_skip (et_or (et_not (b := true) (et_B (isi_tup (T := "tuple") (b := true) (ev_var rfl)))) (et_or (et_test (ev_ltB (b := false) (ev_len (n := 2) (ev_var rfl) rfl) ev_c (by decide))) (et_not (b := true) (et_B (isi_str (T := "str") (b := true) (ev_ixn (ev_var rfl) rfl)))))) (rs_now (rs_ifT (et_test (ev_eqB (b := true) (ev_ixn (ev_var rfl) rfl) ev_c (by decide))) (rs_ret (ev_and (ev_eqB (b := true) (ev_len (n := 2) (ev_var rfl) rfl) ev_c (by decide)) (ev_call (ea_cons (ev_ixn (ev_var rfl) rfl) ea_nil) ⟨?_, rfl⟩))))))
        exact ⟨_, rfl, hp⟩
      | ask c =>
        refine (rs_skip (et_or (et_not (b := true) (et_B (isi_tup (T := "tuple") (b := true) (ev_var rfl)))) (et_or (et_test (ev_ltB (b := false) (ev_len (n := 2) (ev_var rfl) rfl) ev_c (by decide))) (et_not (b := true) (et_B (isi_str (T := "str") (b := true) (ev_ixn (ev_var rfl) rfl)))))) (rs_skip (et_test (ev_eqB (b := false) (ev_ixn (ev_var rfl) rfl) ev_c (by decide))) (rs_now (rs_ifT (et_test (ev_eqB (b := true) (ev_ixn (ev_var rfl) rfl) ev_c (by decide))) (rs_ret (ev_and (ev_eqB (b := true) (ev_len (n := 2) (ev_var rfl) rfl) ev_c (by decide)) (ev_call (ea_cons (ev_ixn (ev_var rfl) rfl) (ea_cons (ev_var rfl) ea_nil)) ⟨?_, rfl⟩)))))))
        exact .inl ⟨_, rfl, hp⟩
      | set c d =>
        refine (rs_skip (et_or (et_not (b := true) (et_B (isi_tup (T := "tuple") (b := true) (ev_var rfl)))) (et_or (et_test (ev_ltB (b := false) (ev_len (n := 3) (ev_var rfl) rfl) ev_c (by decide))) (et_not (b := true) (et_B (isi_str (T := "str") (b := true) (ev_ixn (ev_var rfl) rfl)))))) (rs_skip (et_test (ev_eqB (b := false) (ev_ixn (ev_var rfl) rfl) ev_c (by decide))) (rs_skip (et_test (ev_eqB (b := false) (ev_ixn (ev_var rfl) rfl) ev_c (by decide))) (rs_now (rs_ifT (et_test (ev_eqB (b := true) (ev_ixn (ev_var rfl) rfl) ev_c (by decide))) (rs_ret (ev_and (ev_eqB (b := true) (ev_len (n := 3) (ev_var rfl) rfl) ev_c (by decide)) (ev_and (ev_call (ea_cons (ev_ixn (ev_var rfl) rfl) (ea_cons (ev_var rfl) ea_nil)) ⟨?_, rfl⟩) (ev_call (ea_cons (ev_ixn (ev_var rfl) rfl) ea_nil) ⟨?_, rfl⟩)))))))))
        · exact .inl ⟨_, rfl, hp.1⟩
        · exact ⟨_, rfl, hp.2⟩
      | one o c x =>
        obtain ⟨uT, hT⟩ := takes_one T o
        refine (rs_skip (et_or (et_not (b := true) (et_B (isi_tup (T := "tuple") (b := true) (ev_var rfl)))) (et_or (et_test (ev_ltB (b := false) (ev_len (n := 3) (ev_var rfl) rfl) ev_c (by cases o <;> decide))) (et_not (b := true) (et_B (isi_str (T := "str") (b := true) (ev_ixn (ev_var rfl) rfl)))))) (rs_skip (et_test (ev_eqB (b := false) (ev_ixn (ev_var rfl) rfl) ev_c (by cases o <;> decide))) (rs_skip (et_test (ev_eqB (b := false) (ev_ixn (ev_var rfl) rfl) ev_c (by cases o <;> decide))) (rs_skip (et_test (ev_eqB (b := false) (ev_ixn (ev_var rfl) rfl) ev_c (by cases o <;> decide))) (rs_skip (et_or (et_test (ev_neB (b := true) (ev_kget (ev_ixn (ev_var rfl) rfl) ev_c hT.1 hT.2) (ev_int0 (ev_len (n := 3) (ev_var rfl) rfl) ev_c) (by cases o <;> decide))) (et_not (b := true) (et_B (ev_all (ev_slice1 (ev_var rfl)) ?_ ?_)))) (rs_ret (ev_orT (ev_neB (b := false) (ev_ixn (ev_var rfl) rfl) ev_c (by cases o <;> decide)))))))))
        · exact Nat.le_of_ble_eq_true rfl
        · intro d hd
          rcases List.mem_cons.mp hd with rfl | hd
          · exact ev_call (ea_cons (ev_var rfl) (ea_cons (ev_var rfl) ea_nil)) ⟨.inl ⟨_, rfl, hp.1⟩, rfl⟩
          · rcases List.mem_cons.mp hd with rfl | hd
            · exact ev_call (ea_cons (ev_var rfl) (ea_cons (ev_var rfl) ea_nil)) ⟨.inl ⟨_, rfl, hp.2⟩, rfl⟩
            · cases hd
      | two o c x y =>
        obtain ⟨uT, hT⟩ := takes_two T o
        refine (rs_skip (et_or (et_not (b := true) (et_B (isi_tup (T := "tuple") (b := true) (ev_var rfl)))) (et_or (et_test (ev_ltB (b := false) (ev_len (n := 4) (ev_var rfl) rfl) ev_c (by cases o <;> decide))) (et_not (b := true) (et_B (isi_str (T := "str") (b := true) (ev_ixn (ev_var rfl) rfl)))))) (rs_skip (et_test (ev_eqB (b := false) (ev_ixn (ev_var rfl) rfl) ev_c (by cases o <;> decide))) (rs_skip (et_test (ev_eqB (b := false) (ev_ixn (ev_var rfl) rfl) ev_c (by cases o <;> decide))) (rs_skip (et_test (ev_eqB (b := false) (ev_ixn (ev_var rfl) rfl) ev_c (by cases o <;> decide))) (rs_skip (et_or (et_test (ev_neB (b := true) (ev_kget (ev_ixn (ev_var rfl) rfl) ev_c hT.1 hT.2) (ev_int0 (ev_len (n := 4) (ev_var rfl) rfl) ev_c) (by cases o <;> decide))) (et_not (b := true) (et_B (ev_all (ev_slice1 (ev_var rfl)) ?_ ?_)))) (rs_ret (ev_orT (ev_neB (b := false) (ev_ixn (ev_var rfl) rfl) ev_c (by cases o <;> decide)))))))))
        · exact Nat.le_of_ble_eq_true rfl
        · intro d hd
          rcases List.mem_cons.mp hd with rfl | hd
          · exact ev_call (ea_cons (ev_var rfl) (ea_cons (ev_var rfl) ea_nil)) ⟨.inl ⟨_, rfl, hp.1⟩, rfl⟩
          · rcases List.mem_cons.mp hd with rfl | hd
            · exact ev_call (ea_cons (ev_var rfl) (ea_cons (ev_var rfl) ea_nil)) ⟨.inl ⟨_, rfl, hp.2.1⟩, rfl⟩
            · rcases List.mem_cons.mp hd with rfl | hd
              · exact ev_call (ea_cons (ev_var rfl) (ea_cons (ev_var rfl) ea_nil)) ⟨.inl ⟨_, rfl, hp.2.2⟩, rfl⟩
              · cases hd
    · cases x with
      | mark d =>
        refine (rs_skip (et_or (et_not (b := true) (et_B (isi_tup (T := "tuple") (b := true) (ev_var rfl)))) (et_or (et_test (ev_ltB (b := false) (ev_len (n := 2) (ev_var rfl) rfl) ev_c (by decide))) (et_not (b := true) (et_B (isi_str (T := "str") (b := true) (ev_ixn (ev_var rfl) rfl)))))) (rs_now (rs_ifT (et_test (ev_eqB (b := true) (ev_ixn (ev_var rfl) rfl) ev_c (by decide))) (rs_ret (ev_and (ev_eqB (b := true) (ev_len (n := 2) (ev_var rfl) rfl) ev_c (by decide)) (ev_call (ea_cons (ev_ixn (ev_var rfl) rfl) ea_nil) ⟨?_, rfl⟩))))))
        exact ⟨_, rfl, hp⟩
      | ask c =>
        refine (rs_skip (et_or (et_not (b := true) (et_B (isi_tup (T := "tuple") (b := true) (ev_var rfl)))) (et_or (et_test (ev_ltB (b := false) (ev_len (n := 2) (ev_var rfl) rfl) ev_c (by decide))) (et_not (b := true) (et_B (isi_str (T := "str") (b := true) (ev_ixn (ev_var rfl) rfl)))))) (rs_skip (et_test (ev_eqB (b := false) (ev_ixn (ev_var rfl) rfl) ev_c (by decide))) (rs_now (rs_ifT (et_test (ev_eqB (b := true) (ev_ixn (ev_var rfl) rfl) ev_c (by decide))) (rs_ret (ev_and (ev_eqB (b := true) (ev_len (n := 2) (ev_var rfl) rfl) ev_c (by decide)) (ev_call (ea_cons (ev_ixn (ev_var rfl) rfl) (ea_cons (ev_var rfl) ea_nil)) ⟨?_, rfl⟩)))))))
        exact .inr ⟨_, rfl, hp⟩
      | set c d =>
        refine (rs_skip (et_or (et_not (b := true) (et_B (isi_tup (T := "tuple") (b := true) (ev_var rfl)))) (et_or (et_test (ev_ltB (b := false) (ev_len (n := 3) (ev_var rfl) rfl) ev_c (by decide))) (et_not (b := true) (et_B (isi_str (T := "str") (b := true) (ev_ixn (ev_var rfl) rfl)))))) (rs_skip (et_test (ev_eqB (b := false) (ev_ixn (ev_var rfl) rfl) ev_c (by decide))) (rs_skip (et_test (ev_eqB (b := false) (ev_ixn (ev_var rfl) rfl) ev_c (by decide))) (rs_now (rs_ifT (et_test (ev_eqB (b := true) (ev_ixn (ev_var rfl) rfl) ev_c (by decide))) (rs_ret (ev_and (ev_eqB (b := true) (ev_len (n := 3) (ev_var rfl) rfl) ev_c (by decide)) (ev_and (ev_call (ea_cons (ev_ixn (ev_var rfl) rfl) (ea_cons (ev_var rfl) ea_nil)) ⟨?_, rfl⟩) (ev_call (ea_cons (ev_ixn (ev_var rfl) rfl) ea_nil) ⟨?_, rfl⟩)))))))))
        · exact .inr ⟨_, rfl, hp.1⟩
        · exact ⟨_, rfl, hp.2⟩
      | one o c x =>
        obtain ⟨uT, hT⟩ := takes_one T o
        refine (rs_skip (et_or (et_not (b := true) (et_B (isi_tup (T := "tuple") (b := true) (ev_var rfl)))) (et_or (et_test (ev_ltB (b := false) (ev_len (n := 3) (ev_var rfl) rfl) ev_c (by cases o <;> decide))) (et_not (b := true) (et_B (isi_str (T := "str") (b := true) (ev_ixn (ev_var rfl) rfl)))))) (rs_skip (et_test (ev_eqB (b := false) (ev_ixn (ev_var rfl) rfl) ev_c (by cases o <;> decide))) (rs_skip (et_test (ev_eqB (b := false) (ev_ixn (ev_var rfl) rfl) ev_c (by cases o <;> decide))) (rs_skip (et_test (ev_eqB (b := false) (ev_ixn (ev_var rfl) rfl) ev_c (by cases o <;> decide))) (rs_skip (et_or (et_test (ev_neB (b := true) (ev_kget (ev_ixn (ev_var rfl) rfl) ev_c hT.1 hT.2) (ev_int0 (ev_len (n := 3) (ev_var rfl) rfl) ev_c) (by cases o <;> decide))) (et_not (b := true) (et_B (ev_all (ev_slice1 (ev_var rfl)) ?_ ?_)))) (rs_ret (ev_orT (ev_neB (b := false) (ev_ixn (ev_var rfl) rfl) ev_c (by cases o <;> decide)))))))))
        · exact Nat.le_of_ble_eq_true rfl
        · intro d hd
          rcases List.mem_cons.mp hd with rfl | hd
          · exact ev_call (ea_cons (ev_var rfl) (ea_cons (ev_var rfl) ea_nil)) ⟨.inr ⟨_, rfl, hp.1⟩, rfl⟩
          · rcases List.mem_cons.mp hd with rfl | hd
            · exact ev_call (ea_cons (ev_var rfl) (ea_cons (ev_var rfl) ea_nil)) ⟨.inr ⟨_, rfl, hp.2⟩, rfl⟩
            · cases hd
      | two o c x y =>
        obtain ⟨uT, hT⟩ := takes_two T o
        refine (rs_skip (et_or (et_not (b := true) (et_B (isi_tup (T := "tuple") (b := true) (ev_var rfl)))) (et_or (et_test (ev_ltB (b := false) (ev_len (n := 4) (ev_var rfl) rfl) ev_c (by cases o <;> decide))) (et_not (b := true) (et_B (isi_str (T := "str") (b := true) (ev_ixn (ev_var rfl) rfl)))))) (rs_skip (et_test (ev_eqB (b := false) (ev_ixn (ev_var rfl) rfl) ev_c (by cases o <;> decide))) (rs_skip (et_test (ev_eqB (b := false) (ev_ixn (ev_var rfl) rfl) ev_c (by cases o <;> decide))) (rs_skip (et_test (ev_eqB (b := false) (ev_ixn (ev_var rfl) rfl) ev_c (by cases o <;> decide))) (rs_skip (et_or (et_test (ev_neB (b := true) (ev_kget (ev_ixn (ev_var rfl) rfl) ev_c hT.1 hT.2) (ev_int0 (ev_len (n := 4) (ev_var rfl) rfl) ev_c) (by cases o <;> decide))) (et_not (b := true) (et_B (ev_all (ev_slice1 (ev_var rfl)) ?_ ?_)))) (rs_ret (ev_orT (ev_neB (b := false) (ev_ixn (ev_var rfl) rfl) ev_c (by cases o <;> decide)))))))))
        · exact Nat.le_of_ble_eq_true rfl
        · intro d hd
          rcases List.mem_cons.mp hd with rfl | hd
          · exact ev_call (ea_cons (ev_var rfl) (ea_cons (ev_var rfl) ea_nil)) ⟨.inr ⟨_, rfl, hp.1⟩, rfl⟩
          · rcases List.mem_cons.mp hd with rfl | hd
            · exact ev_call (ea_cons (ev_var rfl) (ea_cons (ev_var rfl) ea_nil)) ⟨.inr ⟨_, rfl, hp.2.1⟩, rfl⟩
            · rcases List.mem_cons.mp hd with rfl | hd
              · exact ev_call (ea_cons (ev_var rfl) (ea_cons (ev_var rfl) ea_nil)) ⟨.inr ⟨_, rfl, hp.2.2⟩, rfl⟩
              · cases hd

theorem sc_is_row : FnScope ["thing"] ["thing"] (defScope s_is_row) := ⟨rfl, rfl, rfl, by decide +kernel, rfl, by decide +kernel, by decide +kernel⟩
theorem cal_is_row (T : Tx w K mg) : Cal P w K mg base 6 "is_row" (TSp K fun ds => ∃ x : RowP, ds = [x.dat] ∧ Row.ok place x) [] := by
  obtain ⟨fd, F⟩ := T.defn (d := d_is_row) 23 rfl
  refine ⟨_, fd, ["thing"], [], F.ok (k := 5) sc_is_row (fun vs H Q E h => psp_len (n := 1) ?_ h) (fun cdv A outer s H vs Q E hr h => ⟨_, PSs.nox (pss_one (ps_ret (pe_c (cal_is_row_by T) hr (by decide) (by rfl) (pa_cons (pv 0) (pa_cons (pe_globR rfl (T.glo 17)) pa_nil))))), psp_of (N := ["thing"]) ?_ h⟩), T.glo 23, F.kp, F.bindsN (fun _ _ _ _ _ _ us hl => match us, hl with | [_], _ => rfl), .nil⟩
  · rintro ds r ⟨⟨n, rfl, _⟩, _⟩
    rfl
  · rintro ds r ⟨⟨x, rfl, hp⟩, rfl⟩
    refine (rs_ret (ev_call (ea_cons (ev_var rfl) (ea_cons ev_c ea_nil)) ⟨?_, rfl⟩))
    exact .inl ⟨_, rfl, hp⟩
end Ww

set_option Elab.async false
set_option linter.all false
set_option maxRecDepth 100000
set_option maxHeartbeats 4000000
/-! W10: deeds, sentences, tellings looked at (printed from W10.src by gen1.py). -/
namespace Ww
open PySem PySem.Spec PyProof.Rows L2
open C8 (Cal CalAt Met Mak pe_c pe_mk pe_mt pe_mt0)
variable {P : Program} {w : World} {K : PySem.W.Frag} {mg : Str → Option Value} {base : Heap}
theorem in_shifts (T : Tx w K mg) (o : Sh) : ∃ u, PySem.W.nsIn K (He.ga K "SHIFTS") o.str = some (some u) := by
  cases o
  · obtain ⟨u, h, _⟩ := T.shifts (q := ("left", .int 1)) (List.mem_of_getElem? (i := 0) rfl); exact ⟨u, h⟩
  · obtain ⟨u, h, _⟩ := T.shifts (q := ("right", .int 1)) (List.mem_of_getElem? (i := 1) rfl); exact ⟨u, h⟩
  · obtain ⟨u, h, _⟩ := T.shifts (q := ("down", .int 1)) (List.mem_of_getElem? (i := 2) rfl); exact ⟨u, h⟩
  · obtain ⟨u, h, _⟩ := T.shifts (q := ("roll", .int 1)) (List.mem_of_getElem? (i := 3) rfl); exact ⟨u, h⟩

theorem sc_is_deed : FnScope ["thing"] ["thing"] (defScope s_is_deed) := ⟨rfl, rfl, rfl, by decide +kernel, rfl, by decide +kernel, by decide +kernel⟩
theorem cal_is_deed (T : Tx w K mg) : Cal P w K mg base 3 "is_deed" (TSp K fun ds => ∃ x : Deed, ds = [x.d] ∧ x.ok) [] := by
  obtain ⟨fd, F⟩ := T.defn (d := d_is_deed) 25 rfl
  obtain ⟨e1, n1, kSHIFTS⟩ := T.tab (t := (fun K => He.ga K "SHIFTS", _)) 1 rfl
  obtain ⟨e2, n2, kTWOS⟩ := T.tab (t := (fun K => He.ga K "TWOS", _)) 2 rfl
  obtain ⟨e3, n3, kPLAIN⟩ := T.tab (t := (fun K => He.ga K "PLAIN", _)) 3 rfl
  refine ⟨_, fd, ["thing"], [], F.ok (k := 2) sc_is_deed (fun vs H Q E h => psp_len (n := 1) ?_ h) (fun cdv A outer s H vs Q E hr h => ⟨_, PSs.nox (pss_cons (ps_if (PW.pt (pw_or (pt_not (pt_val (pe_callB call_isi (by rfl) (T.free 65) (by decide +kernel) (pa_cons (pv 0) (pa_cons (pe_bltn (v := .ty "tuple") (by rfl) (T.free 69) (by decide +kernel) rfl) pa_nil))))) (pw_or (pt_cmpR op_eq (pe_callB call_len_seq (by rfl) (T.free 63) PySem.boot_len (pa_cons (pv 0) pa_nil)) pe_int (nomark _)) (pw_or1 (pt_not (pt_val (pe_callB call_isi (by rfl) (T.free 65) (by decide +kernel) (pa_cons (pe_ix ix_tup (pv 0) pe_int (fun _ _ => rfl)) (pa_cons (pe_bltn (v := .ty "str") (by rfl) (T.free 67) (by decide +kernel) rfl) pa_nil))))))))) (pss_one (ps_ret pe_bl)) pss_nil) (pss_cons (ps_if (pt_cmpR op_eq (pe_callB call_len_seq (by rfl) (T.free 63) PySem.boot_len (pa_cons (pv 0) pa_nil)) pe_int (nomark _)) (pss_one (ps_ret (pe_or (pe_cmpR (op_in_kd kPLAIN) (pe_ix ix_tup (pv 0) pe_int (fun _ _ => rfl)) (pe_globR rfl (T.glo 62)) (by rfl)) (pe_one (pe_cmpR (op_in_kd kTWOS) (pe_ix ix_tup (pv 0) pe_int (fun _ _ => rfl)) (pe_globR rfl (T.glo 61)) (by rfl)))))) pss_nil) (pss_cons (ps_if (pt_cmpR op_eq (pe_callB call_len_seq (by rfl) (T.free 63) PySem.boot_len (pa_cons (pv 0) pa_nil)) pe_int (nomark _)) (pss_one (ps_ret (pe_and (pe_cmpR (op_in_kd kSHIFTS) (pe_ix ix_tup (pv 0) pe_int (fun _ _ => rfl)) (pe_globR rfl (T.glo 60)) (by rfl)) (pe_one (pe_c (cal_is_within T) hr (by decide) (by rfl) (pa_cons (pe_ix ix_tup (pv 0) pe_int (fun _ _ => rfl)) (pa_cons pe_int (pa_cons pe_int pa_nil)))))))) pss_nil) (pss_one ps_never)))), psp_of (N := ["thing"]) ?_ h⟩), T.glo 25, F.kp, F.bindsN (fun _ _ _ _ _ _ us hl => match us, hl with | [_], _ => rfl), .nil⟩
  · rintro ds r ⟨⟨n, rfl, _⟩, _⟩
    rfl
  · rintro ds r ⟨⟨x, rfl, hp⟩, rfl⟩
    cases x with
    | sum =>
      obtain ⟨u, h_PLAIN, _⟩ := T.plain (q := ("sum", .glo "sum_parts")) (List.mem_of_getElem? (i := 0) rfl)
      exact (rs_skip (et_or (et_not (b := true) (et_B (isi_tup (T := "tuple") (b := true) (ev_var rfl)))) (et_or (et_test (ev_eqB (b := false) (ev_len (n := 1) (ev_var rfl) rfl) ev_c (by decide))) (et_not (b := true) (et_B (isi_str (T := "str") (b := true) (ev_ixn (ev_var rfl) rfl)))))) (rs_now (rs_ifT (et_test (ev_eqB (b := true) (ev_len (n := 1) (ev_var rfl) rfl) ev_c (by decide))) (rs_ret (ev_orT (ev_inkd (ev_ixn (ev_var rfl) rfl) h_PLAIN))))))
    | both =>
      have h_PLAIN := T.miss.1
      obtain ⟨u, h_TWOS, _⟩ := T.twos (q := ("both", .int 2)) (List.mem_of_getElem? (i := 0) rfl)
      exact (rs_skip (et_or (et_not (b := true) (et_B (isi_tup (T := "tuple") (b := true) (ev_var rfl)))) (et_or (et_test (ev_eqB (b := false) (ev_len (n := 1) (ev_var rfl) rfl) ev_c (by decide))) (et_not (b := true) (et_B (isi_str (T := "str") (b := true) (ev_ixn (ev_var rfl) rfl)))))) (rs_now (rs_ifT (et_test (ev_eqB (b := true) (ev_len (n := 1) (ev_var rfl) rfl) ev_c (by decide))) (rs_ret (ev_or (ev_inkd (ev_ixn (ev_var rfl) rfl) h_PLAIN) (ev_inkd (ev_ixn (ev_var rfl) rfl) h_TWOS))))))
    | any =>
      have h_PLAIN := T.miss.2.1
      obtain ⟨u, h_TWOS, _⟩ := T.twos (q := ("any", .int 2)) (List.mem_of_getElem? (i := 1) rfl)
      exact (rs_skip (et_or (et_not (b := true) (et_B (isi_tup (T := "tuple") (b := true) (ev_var rfl)))) (et_or (et_test (ev_eqB (b := false) (ev_len (n := 1) (ev_var rfl) rfl) ev_c (by decide))) (et_not (b := true) (et_B (isi_str (T := "str") (b := true) (ev_ixn (ev_var rfl) rfl)))))) (rs_now (rs_ifT (et_test (ev_eqB (b := true) (ev_len (n := 1) (ev_var rfl) rfl) ev_c (by decide))) (rs_ret (ev_or (ev_inkd (ev_ixn (ev_var rfl) rfl) h_PLAIN) (ev_inkd (ev_ixn (ev_var rfl) rfl) h_TWOS))))))
    | shift o s =>
      obtain ⟨u, h_SHIFTS⟩ := in_shifts T o
      refine (rs_skip (et_or (et_not (b := true) (et_B (isi_tup (T := "tuple") (b := true) (ev_var rfl)))) (et_or (et_test (ev_eqB (b := false) (ev_len (n := 2) (ev_var rfl) rfl) ev_c (by cases o <;> decide))) (et_not (b := true) (et_B (isi_str (T := "str") (b := true) (ev_ixn (ev_var rfl) rfl)))))) (rs_skip (et_test (ev_eqB (b := false) (ev_len (n := 2) (ev_var rfl) rfl) ev_c (by cases o <;> decide))) (rs_now (rs_ifT (et_test (ev_eqB (b := true) (ev_len (n := 2) (ev_var rfl) rfl) ev_c (by cases o <;> decide))) (rs_ret (ev_and (ev_inkd (ev_ixn (ev_var rfl) rfl) h_SHIFTS) (ev_call (ea_cons (ev_ixn (ev_var rfl) rfl) (ea_cons ev_c (ea_cons ev_c ea_nil))) ⟨?_, rfl⟩)))))))
      exact ⟨_, _, _, rfl, hp.1, hp.2⟩

theorem sc_check_deed : FnScope ["deed"] ["deed"] (defScope s_check_deed) := ⟨rfl, rfl, rfl, by decide +kernel, rfl, by decide +kernel, by decide +kernel⟩
theorem cal_check_deed (T : Tx w K mg) : Cal P w K mg base 4 "check_deed" (PSp K fun ds r => (∃ x : Deed, ds = [x.d] ∧ x.ok) ∧ r = .v .non) [] := by
  obtain ⟨fd, F⟩ := T.defn (d := d_check_deed) 26 rfl
  refine ⟨_, fd, ["deed"], [], F.ok (k := 3) sc_check_deed (fun vs H Q E h => psp_len (n := 1) ?_ h) (fun cdv A outer s H vs Q E hr h => ⟨_, PSs.nox (pss_one (ps_if (pt_not (pt_val (pe_c (cal_is_deed T) hr (by decide) (by rfl) (pa_cons (pv 0) pa_nil)))) (pss_one ps_never) pss_nil)), psp_ofN (N := ["deed"]) ?_ h⟩), T.glo 26, F.kp, F.bindsN (fun _ _ _ _ _ _ us hl => match us, hl with | [_], _ => rfl), .nil⟩
  · rintro ds r ⟨⟨n, rfl, _⟩, _⟩
    rfl
  · rintro ds r ⟨⟨x, rfl, hp⟩, rfl⟩
    refine ⟨rfl, _, rn_skip (et_not (b := true) (et_B (ev_call (ea_cons (ev_var rfl) ea_nil) ?_)))⟩
    exact ⟨⟨x, rfl, hp⟩, rfl⟩

theorem sc_telling : FnScope ["deed"] ["deed"] (defScope s_telling) := ⟨rfl, rfl, rfl, by decide +kernel, rfl, by decide +kernel, by decide +kernel⟩
theorem cal_telling (T : Tx w K mg) : Cal P w K mg base 5 "telling" (PSp K fun ds r => ∃ x : Deed, ds = [x.d] ∧ x.ok ∧ r = Tell.dat x.tell) [] := by
  obtain ⟨fd, F⟩ := T.defn (d := d_telling) 27 rfl
  obtain ⟨e2, n2, kTWOS⟩ := T.tab (t := (fun K => He.ga K "TWOS", _)) 2 rfl
  obtain ⟨e3, n3, kPLAIN⟩ := T.tab (t := (fun K => He.ga K "PLAIN", _)) 3 rfl
  have pl := at_sum_parts (P := P) (base := base) T
  refine ⟨_, fd, ["deed"], [], F.ok (k := 4) sc_telling (fun vs H Q E h => psp_len (n := 1) ?_ h) (fun cdv A outer s H vs Q E hr h => ⟨_, PSs.nox (pss_cons (ps_expr (pe_c (cal_check_deed T) hr (by decide) (by rfl) (pa_cons (pv 0) pa_nil))) (pss_cons (ps_if (pt_cmpR op_eq (pe_callB call_len_seq (by rfl) (T.free 63) PySem.boot_len (pa_cons (pv 0) pa_nil)) pe_int (nomark _)) (pss_one ps_never) pss_nil) (pss_cons (ps_if (pt_cmpR op_eq (pe_callB call_len_seq (by rfl) (T.free 63) PySem.boot_len (pa_cons (pv 0) pa_nil)) pe_int (nomark _)) (pss_one (ps_ret (pe_c (cal_shift_parts T) hr (by decide) (by rfl) (pa_cons (pe_ix ix_tup (pv 0) pe_int (fun _ _ => rfl)) (pa_cons (pe_ix ix_tup (pv 0) pe_int (fun _ _ => rfl)) pa_nil))))) pss_nil) (pss_cons (ps_if (pt_cmpR (op_in_kd kTWOS) (pe_ix ix_tup (pv 0) pe_int (fun _ _ => rfl)) (pe_globR rfl (T.glo 61)) (by rfl)) (pss_one (ps_ret (pe_c (cal_twos_parts T) hr (by decide) (by rfl) (pa_cons (pe_ix ix_tup (pv 0) pe_int (fun _ _ => rfl)) pa_nil)))) pss_nil) (pss_one (ps_ret (pe_plain0 pl hr (by decide) (pe_ix ix_kdict (pe_globR rfl (T.glo 62)) (pe_ix ix_tup (pv 0) pe_int (fun _ _ => rfl)) (fun _ _ => rfl))))))))), psp_of (N := ["deed"]) ?_ h⟩), T.glo 27, F.kp, F.bindsN (fun _ _ _ _ _ _ us hl => match us, hl with | [_], _ => rfl), .nil⟩
  · rintro ds r ⟨n, rfl, _⟩
    rfl
  · rintro ds r ⟨x, rfl, hp, rfl⟩
    cases x with
    | sum =>
      obtain ⟨u, hu, ru⟩ := T.plain (q := ("sum", .glo "sum_parts")) (List.mem_of_getElem? (i := 0) rfl)
      have h_TWOS := T.miss.2.2
      have hPl : KDct K w (He.ga K "PLAIN") "sum" (.ref (He.ga K "sum_parts")) := ⟨_, _, u, kPLAIN.at_, kPLAIN.lit, hu, ru⟩
      refine (rs_then (rn_drop (ev_call (ea_cons (ev_var rfl) ea_nil) ⟨?_, rfl⟩)) (rs_skip (et_test (ev_eqB (b := false) (ev_len (n := 1) (ev_var rfl) rfl) ev_c (by decide))) (rs_skip (et_test (ev_eqB (b := false) (ev_len (n := 1) (ev_var rfl) rfl) ev_c (by decide))) (rs_skip (et_test (ev_inkd (ev_ixn (ev_var rfl) rfl) h_TWOS)) (rs_ret (ev_plain0 (ev_ixkd (ev_ixn (ev_var rfl) rfl) hPl) ⟨rfl, rfl⟩))))))
      exact ⟨.sum, rfl, hp⟩
    | both =>
      obtain ⟨u, h_TWOS, _⟩ := T.twos (q := ("both", .int 2)) (List.mem_of_getElem? (i := 0) rfl)
      refine (rs_then (rn_drop (ev_call (ea_cons (ev_var rfl) ea_nil) ⟨?_, rfl⟩)) (rs_skip (et_test (ev_eqB (b := false) (ev_len (n := 1) (ev_var rfl) rfl) ev_c (by decide))) (rs_skip (et_test (ev_eqB (b := false) (ev_len (n := 1) (ev_var rfl) rfl) ev_c (by decide))) (rs_now (rs_ifT (et_test (ev_inkd (ev_ixn (ev_var rfl) rfl) h_TWOS)) (rs_ret (ev_call (ea_cons (ev_ixn (ev_var rfl) rfl) ea_nil) ⟨.both, rfl, rfl⟩)))))))
      exact ⟨.both, rfl, hp⟩
    | any =>
      obtain ⟨u, h_TWOS, _⟩ := T.twos (q := ("any", .int 2)) (List.mem_of_getElem? (i := 1) rfl)
      refine (rs_then (rn_drop (ev_call (ea_cons (ev_var rfl) ea_nil) ⟨?_, rfl⟩)) (rs_skip (et_test (ev_eqB (b := false) (ev_len (n := 1) (ev_var rfl) rfl) ev_c (by decide))) (rs_skip (et_test (ev_eqB (b := false) (ev_len (n := 1) (ev_var rfl) rfl) ev_c (by decide))) (rs_now (rs_ifT (et_test (ev_inkd (ev_ixn (ev_var rfl) rfl) h_TWOS)) (rs_ret (ev_call (ea_cons (ev_ixn (ev_var rfl) rfl) ea_nil) ⟨.any, rfl, rfl⟩)))))))
      exact ⟨.any, rfl, hp⟩
    | shift o s =>
      refine (rs_then (rn_drop (ev_call (ea_cons (ev_var rfl) ea_nil) ⟨?_, rfl⟩)) (rs_skip (et_test (ev_eqB (b := false) (ev_len (n := 2) (ev_var rfl) rfl) ev_c (by cases o <;> decide))) (rs_now (rs_ifT (et_test (ev_eqB (b := true) (ev_len (n := 2) (ev_var rfl) rfl) ev_c (by cases o <;> decide))) (rs_ret (ev_call (ea_cons (ev_ixn (ev_var rfl) rfl) (ea_cons (ev_ixn (ev_var rfl) rfl) ea_nil)) ⟨_, _, rfl, rfl⟩))))))
      exact ⟨.shift o s, rfl, hp⟩
end Ww

set_option Elab.async false
set_option linter.all false
set_option maxRecDepth 100000
set_option maxHeartbeats 4000000
/-! W11: sentences, tellings looked at (printed from W11.src by gen1.py). -/
namespace Ww
open PySem PySem.Spec PyProof.Rows L2
open C8 (Cal CalAt Met Mak pe_c pe_mk pe_mt pe_mt0)
variable {P : Program} {w : World} {K : PySem.W.Frag} {mg : Str → Option Value} {base : Heap}

theorem sc_is_thing : FnScope ["thing"] ["thing"] (defScope s_is_thing) := ⟨rfl, rfl, rfl, by decide +kernel, rfl, by decide +kernel, by decide +kernel⟩
theorem cal_is_thing (T : Tx w K mg) : Cal P w K mg base 4 "is_thing" (TSp K fun ds => ∃ x : Thing, ds = [x.d] ∧ x.ok) [] := by
  obtain ⟨fd, F⟩ := T.defn (d := d_is_thing) 31 rfl
  refine ⟨_, fd, ["thing"], [], F.ok (k := 3) sc_is_thing (fun vs H Q E h => psp_len (n := 1) ?_ h) (fun cdv A outer s H vs Q E hr h => ⟨_, PSs.nox (pss_cons (ps_if (PW.pt (pw_or (pt_not (pt_val (pe_callB call_isi (by rfl) (T.free 65) (by decide +kernel) (pa_cons (pv 0) (pa_cons (pe_bltn (v := .ty "tuple") (by rfl) (T.free 69) (by decide +kernel) rfl) pa_nil))))) (pw_or1 (pt_cmpR op_notIn_seq (pe_callB call_len_seq (by rfl) (T.free 63) PySem.boot_len (pa_cons (pv 0) pa_nil)) (pe_tup (pa_cons pe_int (pa_cons pe_int pa_nil))) (by rfl))))) (pss_one (ps_ret pe_bl)) pss_nil) (pss_cons (ps_if (pt_cmpR op_eq (pe_callB call_len_seq (by rfl) (T.free 63) PySem.boot_len (pa_cons (pv 0) pa_nil)) pe_int (nomark _)) (pss_one (ps_ret (pe_cmpR op_eq (pe_ix ix_tup (pv 0) pe_int (fun _ _ => rfl)) pe_str (nomark _)))) pss_nil) (pss_one (ps_ret (pe_and (pe_cmpR op_eq (pe_ix ix_tup (pv 0) pe_int (fun _ _ => rfl)) pe_str (nomark _)) (pe_and (pe_c (cal_is_letter T) hr (by decide) (by rfl) (pa_cons (pe_ix ix_tup (pv 0) pe_int (fun _ _ => rfl)) pa_nil)) (pe_and (pe_c (cal_is_index T) hr (by decide) (by rfl) (pa_cons (pe_ix ix_tup (pv 0) pe_int (fun _ _ => rfl)) pa_nil)) (pe_one (pe_c (cal_is_index T) hr (by decide) (by rfl) (pa_cons (pe_ix ix_tup (pv 0) pe_int (fun _ _ => rfl)) pa_nil)))))))))), psp_of (N := ["thing"]) ?_ h⟩), T.glo 31, F.kp, F.bindsN (fun _ _ _ _ _ _ us hl => match us, hl with | [_], _ => rfl), .nil⟩
  · rintro ds r ⟨⟨n, rfl, _⟩, _⟩
    rfl
  · rintro ds r ⟨⟨x, rfl, hp⟩, rfl⟩
    cases x with
    | sl l a b =>
      refine (rs_skip (et_or (et_not (b := true) (et_B (isi_tup (T := "tuple") (b := true) (ev_var rfl)))) (et_test (ev_inTB (b := false) (xs := [.int 1, .int 4]) (ev_len (n := 4) (ev_var rfl) rfl) (ev_tup (ea_cons ev_c (ea_cons ev_c ea_nil))) rfl rfl (by decide)))) (rs_skip (et_test (ev_eqB (b := false) (ev_len (n := 4) (ev_var rfl) rfl) ev_c (by decide))) (rs_ret (ev_and (ev_eqB (b := true) (ev_ixn (ev_var rfl) rfl) ev_c (by decide)) (ev_and (ev_call (ea_cons (ev_ixn (ev_var rfl) rfl) ea_nil) ⟨?_, rfl⟩) (ev_and (ev_call (ea_cons (ev_ixn (ev_var rfl) rfl) ea_nil) ⟨?_, rfl⟩) (ev_call (ea_cons (ev_ixn (ev_var rfl) rfl) ea_nil) ⟨?_, rfl⟩)))))))
      · exact ⟨_, rfl⟩
      · exact ⟨_, rfl, hp.1⟩
      · exact ⟨_, rfl, hp.2⟩
    | mk => exact (rs_skip (et_or (et_not (b := true) (et_B (isi_tup (T := "tuple") (b := true) (ev_var rfl)))) (et_test (ev_inTB (b := false) (xs := [.int 1, .int 4]) (ev_len (n := 1) (ev_var rfl) rfl) (ev_tup (ea_cons ev_c (ea_cons ev_c ea_nil))) rfl rfl (by decide)))) (rs_now (rs_ifT (et_test (ev_eqB (b := true) (ev_len (n := 1) (ev_var rfl) rfl) ev_c (by decide))) (rs_ret (ev_eqB (b := true) (ev_ixn (ev_var rfl) rfl) ev_c (by decide))))))

theorem sc_is_term : FnScope ["thing", "part"] ["thing"] (defScope s_is_term) := ⟨rfl, rfl, rfl, by decide +kernel, rfl, by decide +kernel, by decide +kernel⟩
theorem cal_is_term (T : Tx w K mg) : Cal P w K mg base 5 "is_term" (TSp K fun ds => ∃ x : Term, ds = [x.d] ∧ x.ok) [] := by
  obtain ⟨fd, F⟩ := T.defn (d := d_is_term) 32 rfl
  refine ⟨_, fd, ["thing"], [], F.ok (k := 4) sc_is_term (fun vs H Q E h => psp_len (n := 1) ?_ h) (fun cdv A outer s H vs Q E hr h => ⟨_, PSs.nox (pss_cons (ps_if (PW.pt (pw_or (pt_not (pt_val (pe_callB call_isi (by rfl) (T.free 65) (by decide +kernel) (pa_cons (pv 0) (pa_cons (pe_bltn (v := .ty "tuple") (by rfl) (T.free 69) (by decide +kernel) rfl) pa_nil))))) (pw_or (pt_cmpR op_ne (pe_callB call_len_seq (by rfl) (T.free 63) PySem.boot_len (pa_cons (pv 0) pa_nil)) pe_int (nomark _)) (pw_or1 (pt_not (pt_val (pe_c (cal_are_numbers T) hr (by decide) (by rfl) (pa_cons (pe_ix ix_tup (pv 0) pe_int (fun _ _ => rfl)) (pa_cons pe_int pa_nil))))))))) (pss_one (ps_ret pe_bl)) pss_nil) (pss_cons (ps_if (PW.pt (pw_or (pt_not (pt_val (pe_c (cal_is_whole T) hr (by decide) (by rfl) (pa_cons (pe_ix ix_tup (pv 0) pe_int (fun _ _ => rfl)) pa_nil)))) (pw_or1 (pt_cmpR op_ge (pe_callB call_abs (by rfl) (T.free 70) (by decide +kernel) (pa_cons (pe_ix ix_tup (pv 0) pe_int (fun _ _ => rfl)) pa_nil)) (pe_globI rfl (T.int 76)) (nomark _))))) (pss_one (ps_ret pe_bl)) pss_nil) (pss_one (ps_ret (pe_and (pe_callB call_isi (by rfl) (T.free 65) (by decide +kernel) (pa_cons (pe_ix ix_tup (pv 0) pe_int (fun _ _ => rfl)) (pa_cons (pe_bltn (v := .ty "tuple") (by rfl) (T.free 69) (by decide +kernel) rfl) pa_nil))) (pe_and (pe_cmpR op_le (pe_callB call_len_seq (by rfl) (T.free 63) PySem.boot_len (pa_cons (pe_ix ix_tup (pv 0) pe_int (fun _ _ => rfl)) pa_nil)) pe_int (nomark _)) (pe_one (pe_callB (cr_all rfl) (by rfl) (T.free 64) (by decide +kernel) (pa_cons (pe_lc (own := [("part", 1)]) (g := gName 1) (tt := tYes) rfl sc_is_term.nd (pi_tup (pe_ix ix_tup (pv 0) pe_int (fun _ _ => rfl))) (blkOk_by (N := ["thing", "part"]) (sc := defScope s_is_term) (by decide +kernel)) (fun _ _ _ _ _ => pg_name (i := 1) sc_is_term.nd rfl (Or.inl rfl)) (fun _ _ _ _ _ => pts_nil) (fun _ _ _ _ _ => (pe_c (cal_is_thing T) hr (by decide) (by rfl) (pa_cons (pv 1) pa_nil)))) pa_nil))))))))), psp_of (N := ["thing", "part"]) ?_ h⟩), T.glo 32, F.kp, F.bindsN (fun _ _ _ _ _ _ us hl => match us, hl with | [_], _ => rfl), .nil⟩
  · rintro ds r ⟨⟨n, rfl, _⟩, _⟩
    rfl
  · rintro ds r ⟨⟨x, rfl, h1, h2, h3, h4, h5⟩, rfl⟩
    refine (rs_skip (et_or (et_not (b := true) (et_B (isi_tup (T := "tuple") (b := true) (ev_var rfl)))) (et_or (et_test (ev_neB (b := true) (ev_len (n := 3) (ev_var rfl) rfl) ev_c (by decide))) (et_not (b := true) (et_B (ev_call (ea_cons (ev_ixn (ev_var rfl) rfl) (ea_cons ev_c ea_nil)) ⟨?_, rfl⟩))))) (rs_skip (et_or (et_not (b := true) (et_B (ev_call (ea_cons (ev_ixn (ev_var rfl) rfl) ea_nil) ⟨?_, rfl⟩))) (et_test (ev_geB (b := false) (ev_abs (ev_ixn (ev_var rfl) rfl)) ev_c ?_))) (rs_ret (ev_and (isi_tup (T := "tuple") (b := true) (ev_ixn (ev_var rfl) rfl)) (ev_and (ev_leB (b := true) (ev_len (ev_ixn (ev_var rfl) rfl) rfl) ev_c ?_) (ev_all (ev_ixn (ev_var rfl) rfl) ?_ ?_))))))
    · refine ⟨x.e, ?_, by omega, h3⟩
      rw [h2]
      rfl
    · exact ⟨_, rfl⟩
    · apply decide_eq_false
      split <;> omega
    · apply decide_eq_true
      rw [List.length_map]
      omega
    · rw [List.length_map]
      omega
    · intro d hd
      obtain ⟨y, hy, rfl⟩ := List.mem_map.mp hd
      exact ev_call (ea_cons (ev_var rfl) ea_nil) ⟨⟨y, rfl, h5 y hy⟩, rfl⟩

theorem sc_is_sentence : FnScope ["thing", "term"] ["thing"] (defScope s_is_sentence) := ⟨rfl, rfl, rfl, by decide +kernel, rfl, by decide +kernel, by decide +kernel⟩
theorem cal_is_sentence (T : Tx w K mg) : Cal P w K mg base 6 "is_sentence" (TSp K fun ds => ∃ x : Sent, ds = [Sent.d x] ∧ Sent.ok x) [] := by
  obtain ⟨fd, F⟩ := T.defn (d := d_is_sentence) 33 rfl
  refine ⟨_, fd, ["thing"], [], F.ok (k := 5) sc_is_sentence (fun vs H Q E h => psp_len (n := 1) ?_ h) (fun cdv A outer s H vs Q E hr h => ⟨_, PSs.nox (pss_one (ps_ret (pe_and (pe_callB call_isi (by rfl) (T.free 65) (by decide +kernel) (pa_cons (pv 0) (pa_cons (pe_bltn (v := .ty "tuple") (by rfl) (T.free 69) (by decide +kernel) rfl) pa_nil))) (pe_and (pe_cmpR op_le (pe_callB call_len_seq (by rfl) (T.free 63) PySem.boot_len (pa_cons (pv 0) pa_nil)) (pe_globI rfl (T.int 75)) (nomark _)) (pe_one (pe_callB (cr_all rfl) (by rfl) (T.free 64) (by decide +kernel) (pa_cons (pe_lc (own := [("term", 1)]) (g := gName 1) (tt := tYes) rfl sc_is_sentence.nd (pi_tup (pv 0)) (blkOk_by (N := ["thing", "term"]) (sc := defScope s_is_sentence) (by decide +kernel)) (fun _ _ _ _ _ => pg_name (i := 1) sc_is_sentence.nd rfl (Or.inl rfl)) (fun _ _ _ _ _ => pts_nil) (fun _ _ _ _ _ => (pe_c (cal_is_term T) hr (by decide) (by rfl) (pa_cons (pv 1) pa_nil)))) pa_nil))))))), psp_of (N := ["thing", "term"]) ?_ h⟩), T.glo 33, F.kp, F.bindsN (fun _ _ _ _ _ _ us hl => match us, hl with | [_], _ => rfl), .nil⟩
  · rintro ds r ⟨⟨n, rfl, _⟩, _⟩
    rfl
  · rintro ds r ⟨⟨x, rfl, h1, h2⟩, rfl⟩
    refine (rs_ret (ev_and (isi_tup (T := "tuple") (b := true) (ev_var rfl)) (ev_and (ev_leB (b := true) (ev_len (ev_var rfl) rfl) ev_c ?_) (ev_all (ev_var rfl) ?_ ?_))))
    · apply decide_eq_true
      rw [List.length_map]
      omega
    · rw [List.length_map]
      omega
    · intro d hd
      obtain ⟨y, hy, rfl⟩ := List.mem_map.mp hd
      exact ev_call (ea_cons (ev_var rfl) ea_nil) ⟨⟨y, rfl, h2 y hy⟩, rfl⟩

theorem sc_is_row_part : FnScope ["thing"] ["thing"] (defScope s_is_row_part) := ⟨rfl, rfl, rfl, by decide +kernel, rfl, by decide +kernel, by decide +kernel⟩
theorem cal_is_row_part (T : Tx w K mg) : Cal P w K mg base 6 "is_row_part" (PSp K fun ds r => (∃ x : RowI, ds = [rowPart x] ∧ x.ok ∧ r = .b true) ∨ (∃ a b c d, ds = [.t [a, b, c, d]] ∧ r = .b false)) [] := by
  obtain ⟨fd, F⟩ := T.defn (d := d_is_row_part) 34 rfl
  refine ⟨_, fd, ["thing"], [], F.ok (k := 5) sc_is_row_part (fun vs H Q E h => psp_len (n := 1) ?_ h) (fun cdv A outer s H vs Q E hr h => ⟨_, PSs.nox (pss_one (ps_ret (pe_and (pe_callB call_isi (by rfl) (T.free 65) (by decide +kernel) (pa_cons (pv 0) (pa_cons (pe_bltn (v := .ty "tuple") (by rfl) (T.free 69) (by decide +kernel) rfl) pa_nil))) (pe_and (pe_cmpR op_eq (pe_callB call_len_seq (by rfl) (T.free 63) PySem.boot_len (pa_cons (pv 0) pa_nil)) pe_int (nomark _)) (pe_and (pe_cmpR op_eq (pe_ix ix_tup (pv 0) pe_int (fun _ _ => rfl)) pe_str (nomark _)) (pe_one (pe_c (cal_is_row_by T) hr (by decide) (by rfl) (pa_cons (pe_ix ix_tup (pv 0) pe_int (fun _ _ => rfl)) (pa_cons (pe_globR rfl (T.glo 19)) pa_nil))))))))), psp_of (N := ["thing"]) ?_ h⟩), T.glo 34, F.kp, F.bindsN (fun _ _ _ _ _ _ us hl => match us, hl with | [_], _ => rfl), .nil⟩
  · rintro ds r (⟨n, rfl, _⟩ | ⟨a, b, c, d, rfl, _⟩) <;> rfl
  · rintro ds r (⟨x, rfl, hp, rfl⟩ | ⟨a, b, c, d, rfl, rfl⟩)
    · refine (rs_ret (ev_and (isi_tup (T := "tuple") (b := true) (ev_var rfl)) (ev_and (ev_eqB (b := true) (ev_len (n := 2) (ev_var rfl) rfl) ev_c (by decide)) (ev_and (ev_eqB (b := true) (ev_ixn (ev_var rfl) rfl) ev_c (by decide)) (ev_call (ea_cons (ev_ixn (ev_var rfl) rfl) (ea_cons ev_c ea_nil)) ⟨?_, rfl⟩)))))
      exact .inr ⟨x, rfl, hp⟩
    · exact (rs_ret (ev_and (isi_tup (T := "tuple") (b := true) (ev_var rfl)) (ev_andF (ev_eqB (b := false) (ev_len (n := 4) (ev_var rfl) rfl) ev_c (by decide)))))
theorem at_is_row_part (T : Tx w K mg) : CalAt P w K mg base 6 (He.ga K "is_row_part") (TSp K fun ds => ∃ x : RowI, ds = [rowPart x] ∧ x.ok) := by
  obtain ⟨fd, ps, F, kp, b⟩ := (cal_at (cal_is_row_part (P := P) (base := base) T) (T.glo 34)).ex
  exact ⟨fd, ps, F.imp fun vs H Q E ⟨ds, r, r1, ⟨⟨x, e, hx⟩, er⟩, k⟩ => ⟨ds, r, r1, .inl ⟨x, e, hx, er⟩, k⟩, kp, b⟩

abbrev G_rounds (K : PySem.W.Frag) {β : Type} (f : β → D) (q : β → Prop) (a : Addr) (ds : List D) : Prop := ∃ (k : Cnt) (s : Sent) (ps : List β), ds = [Part.d f (.rounds k s ps), .v (.ref a)] ∧ k.ok ∧ Sent.ok s ∧ ps.length ≤ 100000 ∧ ∀ p ∈ ps, q p
theorem sc_are_rounds : FnScope ["thing", "inner", "part"] ["thing", "inner"] (defScope s_are_rounds) := ⟨rfl, rfl, rfl, by decide +kernel, rfl, by decide +kernel, by decide +kernel⟩
theorem cal_are_rounds1 (T : Tx w K mg) {β : Type} {f : β → D} {q : β → Prop} {a : Addr} (c_inner : CalAt P w K mg base 6 a (TSp K fun ds => ∃ x : β, ds = [f x] ∧ q x)) : Cal P w K mg base 7 "are_rounds" (TSp K (G_rounds K f q a)) [] := by
  obtain ⟨fd, F⟩ := T.defn (d := d_are_rounds) 35 rfl
  refine ⟨_, fd, ["thing", "inner"], [], F.ok (k := 6) sc_are_rounds (fun vs H Q E h => psp_len (n := 2) ?_ h) (fun cdv A outer s H vs Q E hr h => ⟨_, PSs.nox (pss_cons (ps_if (PW.pt (pw_or (pt_not (pt_val (pe_callB call_isi (by rfl) (T.free 65) (by decide +kernel) (pa_cons (pv 0) (pa_cons (pe_bltn (v := .ty "tuple") (by rfl) (T.free 69) (by decide +kernel) rfl) pa_nil))))) (pw_or (pt_cmpR op_ne (pe_callB call_len_seq (by rfl) (T.free 63) PySem.boot_len (pa_cons (pv 0) pa_nil)) pe_int (nomark _)) (pw_or (pt_cmpR op_ne (pe_ix ix_tup (pv 0) pe_int (fun _ _ => rfl)) pe_str (nomark _)) (pw_or1 (pt_not (pt_val (pe_c (cal_are_numbers T) hr (by decide) (by rfl) (pa_cons (pe_ix ix_tup (pv 0) pe_int (fun _ _ => rfl)) (pa_cons pe_int pa_nil)))))))))) (pss_one (ps_ret pe_bl)) pss_nil) (pss_one (ps_ret (pe_and (pe_c (cal_is_sentence T) hr (by decide) (by rfl) (pa_cons (pe_ix ix_tup (pv 0) pe_int (fun _ _ => rfl)) pa_nil)) (pe_and (pe_callB call_isi (by rfl) (T.free 65) (by decide +kernel) (pa_cons (pe_ix ix_tup (pv 0) pe_int (fun _ _ => rfl)) (pa_cons (pe_bltn (v := .ty "tuple") (by rfl) (T.free 69) (by decide +kernel) rfl) pa_nil))) (pe_one (pe_callB (cr_all rfl) (by rfl) (T.free 64) (by decide +kernel) (pa_cons (pe_lc (own := [("part", 2)]) (g := gName 2) (tt := tYes) rfl sc_are_rounds.nd (pi_tup (pe_ix ix_tup (pv 0) pe_int (fun _ _ => rfl))) (blkOk_by (N := ["thing", "inner", "part"]) (sc := defScope s_are_rounds) (by decide +kernel)) (fun _ _ _ _ _ => pg_name (i := 2) sc_are_rounds.nd rfl (Or.inl rfl)) (fun _ _ _ _ _ => pts_nil) (fun _ _ _ _ _ => (pe_callLA c_inner hr (by decide) rfl (by first | exact Or.inl rfl | exact Or.inr (Or.inl rfl) | exact Or.inr (Or.inr rfl)) (i := 1) (pa_cons (pv 2) pa_nil)))) pa_nil)))))))), psp_of (N := ["thing", "inner", "part"]) ?_ h⟩), T.glo 35, F.kp, F.bindsN (fun _ _ _ _ _ _ us hl => match us, hl with | [_, _], _ => rfl), .nil⟩
  · rintro ds r ⟨⟨k, s, ps, rfl, _⟩, _⟩
    rfl
  · rintro ds r ⟨⟨k, s, ps, rfl, hk, hs, hl, hq⟩, rfl⟩
    refine (rs_skip (et_or (et_not (b := true) (et_B (isi_tup (T := "tuple") (b := true) (ev_var rfl)))) (et_or (et_test (ev_neB (b := true) (ev_len (n := 4) (ev_var rfl) rfl) ev_c (by decide))) (et_or (et_test (ev_neB (b := true) (ev_ixn (ev_var rfl) rfl) ev_c (by decide))) (et_not (b := true) (et_B (ev_call (ea_cons (ev_ixn (ev_var rfl) rfl) (ea_cons ev_c ea_nil)) ⟨?_, rfl⟩)))))) (rs_ret (ev_and (ev_call (ea_cons (ev_ixn (ev_var rfl) rfl) ea_nil) ⟨?_, rfl⟩) (ev_and (isi_tup (T := "tuple") (b := true) (ev_ixn (ev_var rfl) rfl)) (ev_all (ev_ixn (ev_var rfl) rfl) ?_ ?_)))))
    · refine ⟨[k.c, k.m, k.t], rfl, by simp, ?_⟩
      intro z hz
      simp at hz
      rcases hz with rfl | rfl | rfl
      · exact hk.1
      · exact hk.2.1
      · exact hk.2.2
    · exact ⟨s, rfl, hs⟩
    · rw [List.length_map]
      exact hl
    · intro d hd
      obtain ⟨y, hy, rfl⟩ := List.mem_map.mp hd
      exact ev_callL rfl (ea_cons (ev_var rfl) ea_nil) ⟨⟨y, rfl, hq y hy⟩, rfl⟩
theorem cal_are_rounds2 (T : Tx w K mg) {β : Type} {f : β → D} {q : β → Prop} {a : Addr} (c_inner : CalAt P w K mg base 8 a (TSp K fun ds => ∃ x : β, ds = [f x] ∧ q x)) : Cal P w K mg base 9 "are_rounds" (TSp K (G_rounds K f q a)) [] := by
  obtain ⟨fd, F⟩ := T.defn (d := d_are_rounds) 35 rfl
  refine ⟨_, fd, ["thing", "inner"], [], F.ok (k := 8) sc_are_rounds (fun vs H Q E h => psp_len (n := 2) ?_ h) (fun cdv A outer s H vs Q E hr h => ⟨_, PSs.nox (pss_cons (ps_if (PW.pt (pw_or (pt_not (pt_val (pe_callB call_isi (by rfl) (T.free 65) (by decide +kernel) (pa_cons (pv 0) (pa_cons (pe_bltn (v := .ty "tuple") (by rfl) (T.free 69) (by decide +kernel) rfl) pa_nil))))) (pw_or (pt_cmpR op_ne (pe_callB call_len_seq (by rfl) (T.free 63) PySem.boot_len (pa_cons (pv 0) pa_nil)) pe_int (nomark _)) (pw_or (pt_cmpR op_ne (pe_ix ix_tup (pv 0) pe_int (fun _ _ => rfl)) pe_str (nomark _)) (pw_or1 (pt_not (pt_val (pe_c (cal_are_numbers T) hr (by decide) (by rfl) (pa_cons (pe_ix ix_tup (pv 0) pe_int (fun _ _ => rfl)) (pa_cons pe_int pa_nil)))))))))) (pss_one (ps_ret pe_bl)) pss_nil) (pss_one (ps_ret (pe_and (pe_c (cal_is_sentence T) hr (by decide) (by rfl) (pa_cons (pe_ix ix_tup (pv 0) pe_int (fun _ _ => rfl)) pa_nil)) (pe_and (pe_callB call_isi (by rfl) (T.free 65) (by decide +kernel) (pa_cons (pe_ix ix_tup (pv 0) pe_int (fun _ _ => rfl)) (pa_cons (pe_bltn (v := .ty "tuple") (by rfl) (T.free 69) (by decide +kernel) rfl) pa_nil))) (pe_one (pe_callB (cr_all rfl) (by rfl) (T.free 64) (by decide +kernel) (pa_cons (pe_lc (own := [("part", 2)]) (g := gName 2) (tt := tYes) rfl sc_are_rounds.nd (pi_tup (pe_ix ix_tup (pv 0) pe_int (fun _ _ => rfl))) (blkOk_by (N := ["thing", "inner", "part"]) (sc := defScope s_are_rounds) (by decide +kernel)) (fun _ _ _ _ _ => pg_name (i := 2) sc_are_rounds.nd rfl (Or.inl rfl)) (fun _ _ _ _ _ => pts_nil) (fun _ _ _ _ _ => (pe_callLA c_inner hr (by decide) rfl (by first | exact Or.inl rfl | exact Or.inr (Or.inl rfl) | exact Or.inr (Or.inr rfl)) (i := 1) (pa_cons (pv 2) pa_nil)))) pa_nil)))))))), psp_of (N := ["thing", "inner", "part"]) ?_ h⟩), T.glo 35, F.kp, F.bindsN (fun _ _ _ _ _ _ us hl => match us, hl with | [_, _], _ => rfl), .nil⟩
  · rintro ds r ⟨⟨k, s, ps, rfl, _⟩, _⟩
    rfl
  · rintro ds r ⟨⟨k, s, ps, rfl, hk, hs, hl, hq⟩, rfl⟩
    refine (rs_skip (et_or (et_not (b := true) (et_B (isi_tup (T := "tuple") (b := true) (ev_var rfl)))) (et_or (et_test (ev_neB (b := true) (ev_len (n := 4) (ev_var rfl) rfl) ev_c (by decide))) (et_or (et_test (ev_neB (b := true) (ev_ixn (ev_var rfl) rfl) ev_c (by decide))) (et_not (b := true) (et_B (ev_call (ea_cons (ev_ixn (ev_var rfl) rfl) (ea_cons ev_c ea_nil)) ⟨?_, rfl⟩)))))) (rs_ret (ev_and (ev_call (ea_cons (ev_ixn (ev_var rfl) rfl) ea_nil) ⟨?_, rfl⟩) (ev_and (isi_tup (T := "tuple") (b := true) (ev_ixn (ev_var rfl) rfl)) (ev_all (ev_ixn (ev_var rfl) rfl) ?_ ?_)))))
    · refine ⟨[k.c, k.m, k.t], rfl, by simp, ?_⟩
      intro z hz
      simp at hz
      rcases hz with rfl | rfl | rfl
      · exact hk.1
      · exact hk.2.1
      · exact hk.2.2
    · exact ⟨s, rfl, hs⟩
    · rw [List.length_map]
      exact hl
    · intro d hd
      obtain ⟨y, hy, rfl⟩ := List.mem_map.mp hd
      exact ev_callL rfl (ea_cons (ev_var rfl) ea_nil) ⟨⟨y, rfl, hq y hy⟩, rfl⟩
/-- few parts -/
def few1 : P1 → Prop
  | .row _ => True
  | .rounds _ _ ps => ps.length ≤ 100000
def few2 : P2 → Prop
  | .row _ => True
  | .rounds _ _ ps => ps.length ≤ 100000 ∧ ∀ p ∈ ps, few1 p

theorem sc_is_inner_part : FnScope ["thing"] ["thing"] (defScope s_is_inner_part) := ⟨rfl, rfl, rfl, by decide +kernel, rfl, by decide +kernel, by decide +kernel⟩
theorem cal_is_inner_part (T : Tx w K mg) : Cal P w K mg base 8 "is_inner_part" (TSp K fun ds => ∃ p : P1, ds = [P1.dat p] ∧ (P1.ok p ∧ few1 p)) [] := by
  obtain ⟨fd, F⟩ := T.defn (d := d_is_inner_part) 36 rfl
  have cal_are_rounds := fun T => cal_are_rounds1 (P := P) (base := base) (w := w) (K := K) (mg := mg) T (at_is_row_part T)
  refine ⟨_, fd, ["thing"], [], F.ok (k := 7) sc_is_inner_part (fun vs H Q E h => psp_len (n := 1) ?_ h) (fun cdv A outer s H vs Q E hr h => ⟨_, PSs.nox (pss_one (ps_ret (pe_or (pe_c (cal_is_row_part T) hr (by decide) (by rfl) (pa_cons (pv 0) pa_nil)) (pe_one (pe_c (cal_are_rounds T) hr (by decide) (by rfl) (pa_cons (pv 0) (pa_cons (pe_globR rfl (T.glo 34)) pa_nil))))))), psp_of (N := ["thing"]) ?_ h⟩), T.glo 36, F.kp, F.bindsN (fun _ _ _ _ _ _ us hl => match us, hl with | [_], _ => rfl), .nil⟩
  · rintro ds r ⟨⟨n, rfl, _⟩, _⟩
    rfl
  · rintro ds r ⟨⟨p, rfl, hp, hf⟩, rfl⟩
    cases p with
    | row x =>
      refine (rs_ret (ev_orT (ev_call (ea_cons (ev_var rfl) ea_nil) ?_)))
      exact .inl ⟨x, rfl, hp, rfl⟩
    | rounds k s ps =>
      refine (rs_ret (ev_or (ev_call (ea_cons (ev_var rfl) ea_nil) ?_) (ev_call (ea_cons (ev_var rfl) (ea_cons ev_c ea_nil)) ⟨?_, rfl⟩)))
      · exact .inr ⟨_, _, _, _, rfl, rfl⟩
      · exact ⟨k, s, ps, rfl, hp.1, hp.2.1, hf, hp.2.2⟩

theorem sc_is_part : FnScope ["thing"] ["thing"] (defScope s_is_part) := ⟨rfl, rfl, rfl, by decide +kernel, rfl, by decide +kernel, by decide +kernel⟩
theorem cal_is_part (T : Tx w K mg) : Cal P w K mg base 10 "is_part" (TSp K fun ds => ∃ p : P2, ds = [P2.dat p] ∧ (P2.ok p ∧ few2 p)) [] := by
  obtain ⟨fd, F⟩ := T.defn (d := d_is_part) 37 rfl
  have cal_are_rounds := fun T => cal_are_rounds2 (P := P) (base := base) (w := w) (K := K) (mg := mg) T (cal_at (cal_is_inner_part T) (Tx.glo T 36))
  refine ⟨_, fd, ["thing"], [], F.ok (k := 9) sc_is_part (fun vs H Q E h => psp_len (n := 1) ?_ h) (fun cdv A outer s H vs Q E hr h => ⟨_, PSs.nox (pss_one (ps_ret (pe_or (pe_c (cal_is_row_part T) hr (by decide) (by rfl) (pa_cons (pv 0) pa_nil)) (pe_one (pe_c (cal_are_rounds T) hr (by decide) (by rfl) (pa_cons (pv 0) (pa_cons (pe_globR rfl (T.glo 36)) pa_nil))))))), psp_of (N := ["thing"]) ?_ h⟩), T.glo 37, F.kp, F.bindsN (fun _ _ _ _ _ _ us hl => match us, hl with | [_], _ => rfl), .nil⟩
  · rintro ds r ⟨⟨n, rfl, _⟩, _⟩
    rfl
  · rintro ds r ⟨⟨p, rfl, hp, hf⟩, rfl⟩
    cases p with
    | row x =>
      refine (rs_ret (ev_orT (ev_call (ea_cons (ev_var rfl) ea_nil) ?_)))
      exact .inl ⟨x, rfl, hp, rfl⟩
    | rounds k s ps =>
      refine (rs_ret (ev_or (ev_call (ea_cons (ev_var rfl) ea_nil) ?_) (ev_call (ea_cons (ev_var rfl) (ea_cons ev_c ea_nil)) ⟨?_, rfl⟩)))
      · exact .inr ⟨_, _, _, _, rfl, rfl⟩
      · exact ⟨k, s, ps, rfl, hp.1, hp.2.1, hf.1, fun p h => ⟨hp.2.2 p h, hf.2 p h⟩⟩

theorem sc_is_telling : FnScope ["thing", "part"] ["thing"] (defScope s_is_telling) := ⟨rfl, rfl, rfl, by decide +kernel, rfl, by decide +kernel, by decide +kernel⟩
theorem cal_is_telling (T : Tx w K mg) : Cal P w K mg base 11 "is_telling" (TSp K fun ds => ∃ t : Tell, ds = [Tell.dat t] ∧ t.length ≤ 100000 ∧ ∀ p ∈ t, P2.ok p ∧ few2 p) [] := by
  obtain ⟨fd, F⟩ := T.defn (d := d_is_telling) 38 rfl
  refine ⟨_, fd, ["thing"], [], F.ok (k := 10) sc_is_telling (fun vs H Q E h => psp_len (n := 1) ?_ h) (fun cdv A outer s H vs Q E hr h => ⟨_, PSs.nox (pss_one (ps_ret (pe_and (pe_callB call_isi (by rfl) (T.free 65) (by decide +kernel) (pa_cons (pv 0) (pa_cons (pe_bltn (v := .ty "tuple") (by rfl) (T.free 69) (by decide +kernel) rfl) pa_nil))) (pe_one (pe_callB (cr_all rfl) (by rfl) (T.free 64) (by decide +kernel) (pa_cons (pe_lc (own := [("part", 1)]) (g := gName 1) (tt := tYes) rfl sc_is_telling.nd (pi_tup (pv 0)) (blkOk_by (N := ["thing", "part"]) (sc := defScope s_is_telling) (by decide +kernel)) (fun _ _ _ _ _ => pg_name (i := 1) sc_is_telling.nd rfl (Or.inl rfl)) (fun _ _ _ _ _ => pts_nil) (fun _ _ _ _ _ => (pe_c (cal_is_part T) hr (by decide) (by rfl) (pa_cons (pv 1) pa_nil)))) pa_nil)))))), psp_of (N := ["thing", "part"]) ?_ h⟩), T.glo 38, F.kp, F.bindsN (fun _ _ _ _ _ _ us hl => match us, hl with | [_], _ => rfl), .nil⟩
  · rintro ds r ⟨⟨n, rfl, _⟩, _⟩
    rfl
  · rintro ds r ⟨⟨t, rfl, hl, hp⟩, rfl⟩
    refine (rs_ret (ev_and (isi_tup (T := "tuple") (b := true) (ev_var rfl)) (ev_all (ev_var rfl) ?_ ?_)))
    · rw [List.length_map]
      exact hl
    · intro d hd
      obtain ⟨y, hy, rfl⟩ := List.mem_map.mp hd
      exact ev_call (ea_cons (ev_var rfl) ea_nil) ⟨⟨y, rfl, hp y hy⟩, rfl⟩
end Ww

set_option Elab.async false
set_option linter.all false
set_option maxRecDepth 100000
set_option maxHeartbeats 4000000
/-! W11a: evaluation at one state (At, AtA, AtT), statements at one state. -/
namespace Ww
open PySem PySem.Spec PyProof.Rows L2
def At (K : PySem.W.Frag) (te : TE) (σ : L2.St) (H : Hp) (d : D) : Prop := ∀ Q : VK, (∀ v H2, Same H H2 → Rep K H2 v d → Q v H2) → te σ H Q
def AtA (K : PySem.W.Frag) (ta : TA) (σ : L2.St) (H : Hp) (ds : List D) : Prop := ∀ Q : List V → Hp → Prop, (∀ vs H2, Same H H2 → RepL K H2 vs ds → Q vs H2) → ta σ H Q
def AtT (tt : TT) (σ : L2.St) (H : Hp) (b : Bool) : Prop := ∀ Q : Bool → Hp → Prop, (∀ H2, Same H H2 → Q b H2) → tt σ H Q
section
variable {K : PySem.W.Frag} {σ : L2.St} {H : Hp} {δ : DS} {te ta tb : TE} {tt tu : TT} {d r : D} {ds : List D} {b c : Bool} {E : Ends} {t u : L2.TS} {i : Nat} {x y : V} {A : List D → D → Prop} {XE : XK}
theorem at_of (F : FrD K H σ δ) (h : EvD K te δ d) : At K te σ H d := fun Q q => h σ H Q F q
theorem ata_of {ta : TA} (F : FrD K H σ δ) (h : EvA K ta δ ds) : AtA K ta σ H ds := fun Q q => h σ H Q F q
theorem att_of (F : FrD K H σ δ) (h : EvT K tt δ b) : AtT tt σ H b := fun Q q => h σ H Q F q
theorem at_is (h : At K te σ H d) (e : d = r) : At K te σ H r := e ▸ h
theorem at_var (hs : σ[i]? = some (some x)) : At K (tVar i) σ H (.v x) := fun Q q => ⟨x, hs, q x H (Same.refl H) (.v x)⟩
theorem at_c : At K (tC x) σ H (.v x) := fun Q q => q x H (Same.refl H) (.v x)
theorem ata_nil : AtA K tNil σ H [] := fun Q q => q [] H (Same.refl H) .nil
theorem ata_cons {ta : TE} {tr : TA} (h : At K ta σ H d) (hr : ∀ H2, Same H H2 → AtA K tr σ H2 ds) : AtA K (tCons ta tr) σ H (d :: ds) := fun Q q => h _ fun v H1 e1 r1 => hr H1 e1 _ fun vs H2 e2 r2 => q _ H2 (e1.trans e2) (.cons (r1.same e2) r2)
theorem at_call {ta : TA} (h : AtA K ta σ H ds) (hA : A ds r) : At K (tCall (PSp K A) [] XE ta) σ H r := fun Q q => h _ fun vs H1 e1 r1 => ⟨ds, r, by rw [List.append_nil]; exact r1, hA, fun v H2 e2 r2 => q v H2 (e1.trans e2) r2⟩
theorem at_fld {f : Str} {p C dx : Addr} {fs : List (Str × V)} (ha : At K ta σ H (.v (.ref p))) (ho : H p = some (.ins C dx fs)) (hc : Cls K C) (hn : NoAttr K C f) (hl : fs.lookup f = some x) : At K (tFld K ta f) σ H (.v x) := fun Q q => ha _ fun v H1 e1 r1 => ⟨p, C, dx, fs, x, r1.val, e1 _ _ ho, hc, hn, hl, q _ H1 e1 (.v _)⟩
theorem at_op {rr : R2} {z : V} (ha : At K ta σ H (.v x)) (hb : ∀ H2, Same H H2 → At K tb σ H2 (.v y)) (hr : ∀ H2 (Q : VK), Same H H2 → Q z H2 → rr x y H2 Q) : At K (tOp rr ta tb) σ H (.v z) := fun Q q =>
  ha _ fun v H1 e1 r1 => hb H1 e1 _ fun u H2 e2 r2 => by
    cases r1.val
    cases r2.val
    exact hr H2 Q (e1.trans e2) (q _ H2 (e1.trans e2) (.v _))
theorem at_int0 {g : Int → Int → V} {n m : Int} (ha : At K ta σ H (.i n)) (hb : ∀ H2, Same H H2 → At K tb σ H2 (.i m)) : At K (tOp (rI0 g) ta tb) σ H (.v (g n m)) := at_op ha hb fun H2 Q _ q => ⟨n, m, rfl, rfl, q⟩
theorem at_int {C : Int → Int → Prop} {g : Int → Int → V} {n m : Int} (ha : At K ta σ H (.i n)) (hb : ∀ H2, Same H H2 → At K tb σ H2 (.i m)) (hc : C n m) : At K (tOp (rI C g) ta tb) σ H (.v (g n m)) := at_op ha hb fun H2 Q _ q => ⟨n, m, rfl, rfl, hc, q⟩
theorem at_eq (ha : At K ta σ H (.v x)) (hb : ∀ H2, Same H H2 → At K tb σ H2 (.v y)) (h : decide (x = y) = b) (hs : scal x y = true := by rfl) : At K (tOp rEq ta tb) σ H (.b b) := at_op ha hb fun H2 Q _ q => ⟨hs, by rw [h]; exact q⟩
theorem at_ne (ha : At K ta σ H (.v x)) (hb : ∀ H2, Same H H2 → At K tb σ H2 (.v y)) (h : (!decide (x = y)) = b) (hs : scal x y = true := by rfl) : At K (tOp rNe ta tb) σ H (.b b) := at_op ha hb fun H2 Q _ q => ⟨hs, by rw [h]; exact q⟩
theorem at_tup {t : TA} (h : AtA K t σ H ds) (hl : ds.length ≤ 100000) : At K (tTup t) σ H (.t ds) := fun Q q =>
  h _ fun vs H1 e1 r1 => ⟨by
    rw [r1.length]
    exact Nat.le_trans hl (by decide), fun p hp => q _ _ (e1.trans (Same.new hp)) (.of upd_same (r1.same (Same.new hp)))⟩
theorem at_ix {n : Nat} (ha : At K ta σ H (.t ds)) (hi : ds[n]? = some d) : At K (tOp (rIxT K) ta (tC (.int n))) σ H d := fun Q q =>
  ha _ fun v H1 e1 r1 => by
    obtain ⟨a, vs, rfl, hs, rl⟩ := r1.tup
    obtain ⟨z, hz, rz⟩ := repL_atI rl (atI_nat hi)
    exact ⟨a, vs, n, z, rfl, rfl, hs, hz, q z H1 e1 rz⟩
/-! lists that are read -/
theorem at_lenL {p : Addr} {vs : List V} {n : Int} {r : List V → Hp → VK → Prop} (ha : At K ta σ H (.v (.ref p))) (hp : SqL K H p vs) (hn : (vs.length : Int) = n) (hr : r = fun xs H Q => ∃ p ys, xs = [.ref p] ∧ (SqL K H p ys ∨ SqT K H p ys) ∧ Q (.int ys.length) H := by rfl) : At K (tCB r (tCons ta tNil)) σ H (.i n) := by
  subst hr
  intro Q q
  refine ha _ fun v H1 e1 r1 => ?_
  cases r1.val
  refine ⟨p, vs, rfl, .inl (e1.seq hp), ?_⟩
  rw [hn]
  exact q _ H1 e1 (.v _)
theorem at_ixL {p : Addr} {vs : List V} {i : Int} {x : V} (ha : At K ta σ H (.v (.ref p))) (hb : ∀ H2, Same H H2 → At K tb σ H2 (.i i)) (hp : SqL K H p vs) (hi : atI vs i = some x) : At K (tOp (rIxL K) ta tb) σ H (.v x) := at_op ha hb fun H2 Q e q => ⟨p, vs, i, x, rfl, rfl, e.seq hp, hi, q⟩
theorem at_tupleOf {l : Addr} {vs : List V} {r : List V → Hp → VK → Prop} (ha : At K ta σ H (.v (.ref l))) (hl : H l = some (.lst vs)) (hr : RepL K H vs ds)
    (hq : r = fun xs H Q => ∃ p ys, xs = [.ref p] ∧ ((SqL K H p ys ∧ ∀ l, H l = none → Q (.ref l) (upd H l (.tup ys))) ∨ (SqT K H p ys ∧ Q (.ref p) H)) := by rfl) : At K (tCB r (tCons ta tNil)) σ H (.t ds) := by
  subst hq
  intro Q q
  refine ha _ fun v H1 e1 r1 => ?_
  cases r1.val
  exact ⟨l, vs, rfl, .inl ⟨SqL.of (e1 _ _ hl), fun p hp => q _ _ (e1.trans (Same.new hp)) (.of upd_same ((hr.same e1).same (Same.new hp)))⟩⟩
/-! tests -/
theorem att_test (h : At K te σ H (.b b)) : AtT (tTest te) σ H b := fun Q q => h _ fun v H1 e1 r1 => by
  cases r1.val
  exact ⟨b, rfl, q H1 e1⟩
theorem att_B (h : At K te σ H (.b b)) : AtT (tB te) σ H b := fun Q q => h _ fun v H1 e1 r1 => by
  cases r1.val
  exact ⟨b, rfl, q H1 e1⟩
theorem att_not (h : AtT tt σ H b) : AtT (tNot tt) σ H (!b) := fun Q q => h _ fun H1 e1 => q H1 e1
theorem att_and (h : AtT tt σ H true) (h2 : ∀ H2, Same H H2 → AtT tu σ H2 c) : AtT (tAnd tt tu) σ H c := fun Q q => h _ fun H1 e1 => iteT (h2 H1 e1 _ fun H2 e2 => q H2 (e1.trans e2))
theorem att_andF (h : AtT tt σ H false) : AtT (tAnd tt tu) σ H false := fun Q q => h _ fun H1 e1 => iteF (q H1 e1)
theorem att_or (h : AtT tt σ H false) (h2 : ∀ H2, Same H H2 → AtT tu σ H2 c) : AtT (tOr tt tu) σ H c := fun Q q => h _ fun H1 e1 => iteF (h2 H1 e1 _ fun H2 e2 => q H2 (e1.trans e2))
theorem att_orT (h : AtT tt σ H true) : AtT (tOr tt tu) σ H true := fun Q q => h _ fun H1 e1 => iteT (q H1 e1)
/-! statements -/
theorem st_seq (h : t { E with nx := u E } σ H) : tSeq t u E σ H := h
theorem st_drop {te : TE} (h : At K te σ H d) (q : ∀ H2, Same H H2 → E.nx σ H2) : tDrop te E σ H := h _ fun v H1 e1 r1 => q H1 e1
theorem st_set {te : TE} (h : At K te σ H d) (q : ∀ v H2, Same H H2 → Rep K H2 v d → E.nx (σ.set i (some v)) H2) : tAsg te (gName i) E σ H := h _ fun v H1 e1 r1 => q v H1 e1 r1
theorem st_ret (h : At K te σ H d) (q : ∀ v H2, Same H H2 → Rep K H2 v d → E.rt v H2) : tRet te E σ H := h _ q
theorem st_if (h : AtT tt σ H b) (q : ∀ H2, Same H H2 → (match b with | true => t E σ H2 | false => u E σ H2)) : tIfS tt t u E σ H := h _ fun H1 e1 => by
  cases b with
  | true => exact iteT (q H1 e1)
  | false => exact iteF (q H1 e1)
theorem st_ifT (h : AtT tt σ H true) (q : ∀ H2, Same H H2 → t E σ H2) : tIfS tt t u E σ H := h _ fun H1 e1 => iteT (q H1 e1)
theorem st_ifF (h : AtT tt σ H false) (q : ∀ H2, Same H H2 → u E σ H2) : tIfS tt t u E σ H := h _ fun H1 e1 => iteF (q H1 e1)
theorem st_skip (h : AtT tt σ H false) (q : ∀ H2, Same H H2 → u E σ H2) : tSeq (tIfS tt t tNext) u E σ H := h _ fun H1 e1 => iteF (q H1 e1)
end
end Ww

set_option Elab.async false
set_option linter.all false
set_option maxRecDepth 100000
set_option maxHeartbeats 4000000
/-! W12: places, counts, a row with places (printed from W12.src by gen1.py). -/
namespace Ww
open PySem PySem.Spec PyProof.Rows L2
open C8 (Cal CalAt Met Mak pe_c pe_mk pe_mt pe_mt0)
variable {P : Program} {w : World} {K : PySem.W.Frag} {mg : Str → Option Value} {base : Heap}

theorem sc_place_of : FnScope ["index", "n", "i", "j"] ["index", "n", "i", "j"] (defScope s_place_of) := ⟨rfl, rfl, rfl, by decide +kernel, rfl, by decide +kernel, by decide +kernel⟩
theorem cal_place_of (T : Tx w K mg) : Cal P w K mg base 1 "place_of" (PSp K fun ds r => ∃ (x : Ix) (n i j : Int), ds = [x.d, .i n, .i i, .i j] ∧ x.ok ∧ r = .i (x.at n i j)) [] := by
  obtain ⟨fd, F⟩ := T.defn (d := d_place_of) 39 rfl
  refine ⟨_, fd, ["index", "n", "i", "j"], [], F.ok (k := 0) sc_place_of (fun vs H Q E h => psp_len (n := 4) ?_ h) (fun cdv A outer s H vs Q E hr h => ⟨_, PSs.nox (pss_one (ps_ret (pe_op op_add (pe_op op_add (pe_op op_add (pe_ix ix_tup (pv 0) pe_int (fun _ _ => rfl)) (pe_op op_mul (pe_ix ix_tup (pv 0) pe_int (fun _ _ => rfl)) (pv 2))) (pe_op op_mul (pe_ix ix_tup (pv 0) pe_int (fun _ _ => rfl)) (pv 3))) (pe_op op_mul (pe_ix ix_tup (pv 0) pe_int (fun _ _ => rfl)) (pv 1))))), psp_of (N := ["index", "n", "i", "j"]) ?_ h⟩), T.glo 39, F.kp, F.bindsN (fun _ _ _ _ _ _ us hl => match us, hl with | [_, _, _, _], _ => rfl), .nil⟩
  · rintro ds r ⟨x, n, i, j, rfl, _⟩
    rfl
  · rintro ds r ⟨x, n, i, j, rfl, ⟨h1, h2, h3, h4⟩, rfl⟩
    have b1 := h1.1
    have c1 := h1.2
    have b2 := h2.1
    have c2 := h2.2
    have b3 := h3.1
    have c3 := h3.2
    have b4 := h4.1
    have c4 := h4.2
    refine rs_is (rs_ret (ev_int0 (ev_int0 (ev_int0 (ev_ixn (ev_var rfl) rfl) (ev_int (ev_ixn (ev_var rfl) rfl) (ev_var rfl) ?_)) (ev_int (ev_ixn (ev_var rfl) rfl) (ev_var rfl) ?_)) (ev_int (ev_ixn (ev_var rfl) rfl) (ev_var rfl) ?_))) rfl
    · exact .inl ⟨by omega, by omega⟩
    · exact .inl ⟨by omega, by omega⟩
    · exact .inl ⟨by omega, by omega⟩

theorem ev_max2 {δ : DS} {ta tb : TE} {n m : Int} {r : List V → Hp → VK → Prop} (ha : EvD K ta δ (.i n)) (hb : EvD K tb δ (.i m)) (hr : r = fun xs H Q => ∃ i j, xs = [.int i, .int j] ∧ Q (.int (if j > i then j else i)) H := by rfl) : EvD K (tCB r (tCons ta (tCons tb tNil))) δ (.i (if m > n then m else n)) := by
  subst hr
  intro σ H Q F q
  refine ha σ H _ F fun v H1 e1 r1 => hb σ H1 _ (F.same e1) fun u H2 e2 r2 => ?_
  cases r1.val
  cases r2.val
  exact ⟨n, m, rfl, q _ H2 (e1.trans e2) (.v _)⟩
def Cnt.many (x : Cnt) (w n : Int) : Int := if x.of w n > 0 then x.of w n else 0
theorem sc_count_of : FnScope ["count", "w", "n"] ["count", "w", "n"] (defScope s_count_of) := ⟨rfl, rfl, rfl, by decide +kernel, rfl, by decide +kernel, by decide +kernel⟩
theorem cal_count_of (T : Tx w K mg) : Cal P w K mg base 1 "count_of" (PSp K fun ds r => ∃ (x : Cnt) (w n : Int), ds = [x.d, .i w, .i n] ∧ x.ok ∧ (0 ≤ n ∧ n ≤ 4) ∧ r = .i (x.many w n)) [] := by
  obtain ⟨fd, F⟩ := T.defn (d := d_count_of) 40 rfl
  refine ⟨_, fd, ["count", "w", "n"], [], F.ok (k := 0) sc_count_of (fun vs H Q E h => psp_len (n := 3) ?_ h) (fun cdv A outer s H vs Q E hr h => ⟨_, PSs.nox (pss_one (ps_ret (pe_callB (call_max2 rfl) (by rfl) (T.free 71) (by decide +kernel) (pa_cons pe_int (pa_cons (pe_op op_add (pe_op op_add (pe_ix ix_tup (pv 0) pe_int (fun _ _ => rfl)) (pe_op op_mul (pe_ix ix_tup (pv 0) pe_int (fun _ _ => rfl)) (pv 2))) (pe_op op_mul (pe_op op_mul (pe_ix ix_tup (pv 0) pe_int (fun _ _ => rfl)) (pv 1)) (pv 2))) pa_nil))))), psp_of (N := ["count", "w", "n"]) ?_ h⟩), T.glo 40, F.kp, F.bindsN (fun _ _ _ _ _ _ us hl => match us, hl with | [_, _, _], _ => rfl), .nil⟩
  · rintro ds r ⟨x, n, i, rfl, _⟩
    rfl
  · rintro ds r ⟨x, w, n, rfl, ⟨h1, h2, h3⟩, ⟨hn0, hn4⟩, rfl⟩
    have b1 := h1.1
    have c1 := h1.2
    have b2 := h2.1
    have c2 := h2.2
    have b3 := h3.1
    have c3 := h3.2
    refine rs_is (rs_ret (ev_max2 ev_c (ev_int0 (ev_int0 (ev_ixn (ev_var rfl) rfl) (ev_int (ev_ixn (ev_var rfl) rfl) (ev_var rfl) ?_)) (ev_int (ev_int (ev_ixn (ev_var rfl) rfl) (ev_var rfl) ?_) (ev_var rfl) ?_)))) rfl
    · exact .inl ⟨by omega, by omega⟩
    · exact .inl ⟨by omega, by omega⟩
    · exact .inr ⟨by omega, by omega⟩

/-! ### a row with places -/
def argD {α : Type} (f : α → D) : Sum (Cl α) Int → D
  | .inl x => x.d f
  | .inr d => .i d
def Row.name {α : Type} : Row α → Str
  | .mark _ => "mark"
  | .ask _ => "ask"
  | .set _ _ => "set"
  | .one o _ _ => o.str
  | .two o _ _ _ => o.str
def Row.args {α : Type} : Row α → List (Sum (Cl α) Int)
  | .mark d => [.inr d]
  | .ask x => [.inl x]
  | .set to d => [.inl to, .inr d]
  | .one _ to x => [.inl to, .inl x]
  | .two _ to x y => [.inl to, .inl x, .inl y]
theorem Row.d_args {α : Type} (f : α → D) (r : Row α) : Row.d f r = .t (.s r.name :: r.args.map (argD f)) := by
  cases r <;> rfl
def argMap {α β : Type} (g : α → β) : Sum (Cl α) Int → Sum (Cl β) Int
  | .inl x => .inl (x.map g)
  | .inr d => .inr d
theorem Row.map_args {α β : Type} (g : α → β) (r : Row α) : (r.map g).args = r.args.map (argMap g) := by
  cases r <;> rfl
theorem Row.map_name {α β : Type} (g : α → β) (r : Row α) : (r.map g).name = r.name := by
  cases r <;> rfl
theorem Row.args_ok {α : Type} {q : α → Prop} {r : Row α} (h : r.ok q) : ∀ x, .inl x ∈ r.args → q x.p := by
  intro x hx
  cases r with
  | mark d => simp [Row.args] at hx
  | ask y => simp [Row.args] at hx; subst hx; exact h
  | set to d => simp [Row.args] at hx; subst hx; exact h.1
  | one o to y =>
    simp [Row.args] at hx
    rcases hx with e | e
    · rw [e]; exact h.1
    · rw [e]; exact h.2
  | two o to y z =>
    simp [Row.args] at hx
    rcases hx with e | e | e
    · rw [e]; exact h.1
    · rw [e]; exact h.2.1
    · rw [e]; exact h.2.2
theorem Row.args_len {α : Type} (r : Row α) : r.args.length ≤ 3 := by
  cases r <;> simp [Row.args]
/-- all but the object at l is as it was -/
def Bar (l : Addr) (H H' : Hp) : Prop := ∀ b o, H b = some o → b ≠ l → H' b = some o
theorem Bar.refl (l : Addr) (H : Hp) : Bar l H H := fun _ _ h _ => h
theorem Bar.trans {l : Addr} {H H1 H2 : Hp} (a : Bar l H H1) (b : Bar l H1 H2) : Bar l H H2 := fun c o h n => b c o (a c o h n) n
theorem Bar.same {l : Addr} {H H' : Hp} (e : Same H H') : Bar l H H' := fun c o h _ => e c o h
theorem Bar.upd {l : Addr} {H : Hp} {o : HO} : Bar l H (upd H l o) := fun c u h n => by
  rw [upd_ne n]
  exact h
theorem Bar.stay {l : Addr} {H H' : Hp} {o : HO} (b : Bar l H H') (h : H l = some o) (hi : imm o = false) : Stay H H' := fun c u e i => b c u e fun q => by
  rw [q, h] at e
  cases e
  rw [hi] at i
  cases i
theorem Bar.out {l : Addr} {H H1 H' : Hp} (e : Same H H1) (h : H l = none) (b : Bar l H1 H') : Same H H' := fun c o q => b c o (e c o q) (ne_of_none q h)
theorem slotR_none {H : Hp} : ∀ o : Option V, SlotR K H o none
  | none => trivial
  | some _ => trivial
theorem FrD.forget {H : Hp} : ∀ {σ : L2.St} {δ : DS} (i : Nat), FrD K H σ δ → FrD K H σ (δ.set i none)
  | _, _, _, .nil => .nil
  | _, _, 0, .cons _ r => .cons (slotR_none _) r
  | _, _, i + 1, .cons q r => .cons q (FrD.forget i r)
/-- told.append(e) -/
theorem st_append {E : Ends} {σ : L2.St} {H : Hp} {l : Addr} {vs : List V} {R : V → Hp → Prop} {to te : TE} (ho : At K to σ H (.v (.ref l))) (hl : H l = some (.lst vs)) (hz : vs.length < 100000) (ha : ∀ H2, Same H H2 → ∀ Q : VK, (∀ v H3, Same H2 H3 → R v H3 → Q v H3) → te σ H2 Q)
    (q : ∀ v H2, Same H H2 → R v H2 → E.nx σ (upd H2 l (.lst (vs ++ [v])))) : tDrop (tBM K "list" rAppend to (tCons te tNil)) E σ H := by
  refine ho _ fun x H1 e1 r1 => ?_
  cases r1.val
  refine ⟨.inl ⟨rfl, _, SqL.of (e1 _ _ hl)⟩, ha H1 e1 _ fun v H2 e2 r2 => ?_⟩
  exact ⟨l, vs, v, rfl, rfl, e2 _ _ (e1 _ _ hl), Nat.lt_of_lt_of_le hz (by decide), q v H2 (e1.trans e2) r2⟩
/-! ### rows whose cells are tracked tuples (keys of a dict) -/
/-- v stands for an argument of a row -/
def ArgX (H : Hp) (v : V) : Sum (Cl Int) Int → Prop
  | .inl c => ∃ b, v = .ref b ∧ H b = some (.tup [.str c.l.str, .int c.p])
  | .inr d => v = .int d
inductive ArgsX (H : Hp) : List V → List (Sum (Cl Int) Int) → Prop
  | nil : ArgsX H [] []
  | cons {v : V} {a : Sum (Cl Int) Int} {vs : List V} {as : List (Sum (Cl Int) Int)} (h : ArgX H v a) (r : ArgsX H vs as) : ArgsX H (v :: vs) (a :: as)
theorem ArgX.mono {H H' : Hp} {v : V} {a : Sum (Cl Int) Int} (e : Stay H H') (h : ArgX H v a) : ArgX H' v a := by
  cases a with
  | inl c =>
    obtain ⟨b, rfl, hb⟩ := h
    exact ⟨b, rfl, e _ _ hb rfl⟩
  | inr d => exact h
theorem ArgsX.mono {H H' : Hp} (e : Stay H H') : ∀ {vs : List V} {as : List (Sum (Cl Int) Int)}, ArgsX H vs as → ArgsX H' vs as
  | _, _, .nil => .nil
  | _, _, .cons h r => .cons (h.mono e) (r.mono e)
theorem ArgsX.snoc {H : Hp} {v : V} {a : Sum (Cl Int) Int} (h : ArgX H v a) : ∀ {vs : List V} {as : List (Sum (Cl Int) Int)}, ArgsX H vs as → ArgsX H (vs ++ [v]) (as ++ [a])
  | _, _, .nil => .cons h .nil
  | _, _, .cons h' r => .cons h' (r.snoc h)
theorem ArgX.rep {H : Hp} {v : V} {a : Sum (Cl Int) Int} (h : ArgX H v a) : Rep K H v (argD D.i a) := by
  cases a with
  | inl c =>
    obtain ⟨b, rfl, hb⟩ := h
    exact .of hb (.cons (.v _) (.cons (.v _) .nil))
  | inr d =>
    cases h
    exact .v _
theorem ArgsX.repL {H : Hp} : ∀ {vs : List V} {as : List (Sum (Cl Int) Int)}, ArgsX H vs as → RepL K H vs (as.map (argD D.i))
  | _, _, .nil => .nil
  | _, _, .cons h r => .cons h.rep r.repL
/-- v stands for the row, its cells tracked -/
def RepX (K : PySem.W.Frag) (H : Hp) (v : V) (x : RowP) : Prop := ∃ a vs, v = .ref a ∧ SqT K H a (.str x.name :: vs) ∧ ArgsX H vs x.args
theorem RepX.mono {H H' : Hp} {v : V} {x : RowP} (e : Stay H H') (h : RepX K H v x) : RepX K H' v x := by
  obtain ⟨a, vs, rfl, hs, ha⟩ := h
  exact ⟨a, vs, rfl, e.seqT hs, ha.mono e⟩
theorem RepX.rep {H : Hp} {v : V} {x : RowP} (h : RepX K H v x) : Rep K H v x.dat := by
  obtain ⟨a, vs, rfl, hs, ha⟩ := h
  show Rep K H _ (Row.d D.i x)
  rw [Row.d_args]
  exact .t hs (.cons (.v _) ha.repL)
inductive RepXs (K : PySem.W.Frag) (H : Hp) : List V → List RowP → Prop
  | nil : RepXs K H [] []
  | cons {v : V} {x : RowP} {vs : List V} {xs : List RowP} (h : RepX K H v x) (r : RepXs K H vs xs) : RepXs K H (v :: vs) (x :: xs)
theorem RepXs.mono {H H' : Hp} (e : Stay H H') : ∀ {vs : List V} {xs : List RowP}, RepXs K H vs xs → RepXs K H' vs xs
  | _, _, .nil => .nil
  | _, _, .cons h r => .cons (h.mono e) (r.mono e)
theorem RepXs.same {H H' : Hp} {vs : List V} {xs : List RowP} (e : Same H H') (h : RepXs K H vs xs) : RepXs K H' vs xs := h.mono (Stay.same e)
theorem RepXs.snoc {H : Hp} {v : V} {x : RowP} (h : RepX K H v x) : ∀ {vs : List V} {xs : List RowP}, RepXs K H vs xs → RepXs K H (vs ++ [v]) (xs ++ [x])
  | _, _, .nil => .cons h .nil
  | _, _, .cons h' r => .cons h' (r.snoc h)
theorem RepXs.length {H : Hp} : ∀ {vs : List V} {xs : List RowP}, RepXs K H vs xs → vs.length = xs.length
  | _, _, .nil => rfl
  | _, _, .cons _ r => congrArg Nat.succ r.length
theorem RepXs.get {H : Hp} : ∀ {vs : List V} {xs : List RowP} {i : Nat} {v : V}, RepXs K H vs xs → vs[i]? = some v → ∃ x, xs[i]? = some x ∧ RepX K H v x
  | _, _, i, _, .nil, e => by simp at e
  | _, _, 0, _, .cons h _, e => by
    simp at e
    subst e
    exact ⟨_, rfl, h⟩
  | _, _, i + 1, v, .cons _ r, e => by
    obtain ⟨x, h1, h2⟩ := RepXs.get (i := i) (v := v) r (by simpa using e)
    exact ⟨x, by simpa using h1, h2⟩
theorem RepXs.repL {H : Hp} : ∀ {vs : List V} {xs : List RowP}, RepXs K H vs xs → RepL K H vs (xs.map RowP.dat)
  | _, _, .nil => .nil
  | _, _, .cons h r => .cons h.rep r.repL
def plainRow (n i j : Int) (r : RowI) : RowP := r.map fun p => p.at n i j
def PlainSp (K : PySem.W.Frag) : Sp := fun vs H Q _ => ∃ (x : RowI) (n i j : Int), RepL K H vs [x.dat, .i n, .i i, .i j] ∧ x.ok ∧ Row.ok place (plainRow n i j x) ∧ ∀ v H', Same H H' → RepX K H' v (plainRow n i j x) → Q v H'

theorem sc_plain_row : FnScope ["row", "n", "i", "j", "told", "part"] ["row", "n", "i", "j"] (defScope s_plain_row) := ⟨rfl, rfl, rfl, by decide +kernel, rfl, by decide +kernel, by decide +kernel⟩
theorem cal_plain_row (T : Tx w K mg) : Cal P w K mg base 7 "plain_row" (PlainSp K) [] := by
  obtain ⟨fd, F⟩ := T.defn (d := d_plain_row) 41 rfl
  refine ⟨_, fd, ["row", "n", "i", "j"], [], F.ok (k := 6) sc_plain_row (fun vs H Q E h => ?_) (fun cdv A outer s H vs Q E hr h => ⟨_, PSs.nox (pss_cons (ps_set (i := 4) sc_plain_row.nd rfl (Or.inl rfl) (pe_lst (pa_cons (pe_ix ix_tup (pv 0) pe_int (fun _ _ => rfl)) pa_nil))) (pss_cons (ps_for PassesOwn.never rfl (pi_tup (pe_slice sl_tupA (pv 0) (po_some pe_int) po_none)) (pg_name (i := 5) sc_plain_row.nd rfl (Or.inl rfl)) (pss_one (ps_if (pt_val (pe_callB call_isi (by rfl) (T.free 65) (by decide +kernel) (pa_cons (pv 5) (pa_cons (pe_bltn (v := .ty "tuple") (by rfl) (T.free 69) (by decide +kernel) rfl) pa_nil)))) (pss_one (ps_expr (pe_bm PySem.F.plainAttrs_list PySem.F.slot_list_append PySem.F.type_list_append mt_append (pv 4) (pa_cons (pe_tup (pa_cons (pe_ix ix_tup (pv 5) pe_int (fun _ _ => rfl)) (pa_cons (pe_c (cal_place_of T) hr (by decide) (by rfl) (pa_cons (pe_ix ix_tup (pv 5) pe_int (fun _ _ => rfl)) (pa_cons (pv 1) (pa_cons (pv 2) (pa_cons (pv 3) pa_nil))))) pa_nil))) pa_nil)))) (pss_one (ps_expr (pe_bm PySem.F.plainAttrs_list PySem.F.slot_list_append PySem.F.type_list_append mt_append (pv 4) (pa_cons (pv 5) pa_nil))))))) (pss_cons (ps_if (pt_not (pt_val (pe_c (cal_is_row T) hr (by decide) (by rfl) (pa_cons (pe_callTy call_tuple_of (by rfl) (T.free 69) (by decide +kernel) (pa_cons (pv 4) pa_nil)) pa_nil)))) (pss_one ps_never) pss_nil) (pss_one (ps_ret (pe_callTy call_tuple_of (by rfl) (T.free 69) (by decide +kernel) (pa_cons (pv 4) pa_nil))))))), ?_⟩), T.glo 41, F.kp, F.bindsN (fun _ _ _ _ _ _ us hl => match us, hl with | [_, _, _, _], _ => rfl), .nil⟩
  · obtain ⟨x, n, i, j, rl, _⟩ := h
    exact rl.length
  · obtain ⟨x, n, i, j, rl, hx, hok, q⟩ := h
    have F0 : FrD K H (L2.start ["row", "n", "i", "j", "told", "part"] vs) [some x.dat, some (.i n), some (.i i), some (.i j), none, none] := FrD.start (N := ["row", "n", "i", "j", "told", "part"]) rl
    revert F0
    generalize L2.start ["row", "n", "i", "j", "told", "part"] vs = σ
    intro F0
    have ed : x.dat = .t (.s x.name :: x.args.map (argD Ix.d)) := Row.d_args _ _
    have F : FrD K H σ [some (.t (.s x.name :: x.args.map (argD Ix.d))), some (.i n), some (.i i), some (.i j), none, none] := by
      rw [← ed]
      exact F0
    -- told = [row[0]]
    refine ev_ixn (K := K) (n := 0) (ev_var rfl) rfl σ H _ F fun v0 H1 e1 r1 => ⟨by show 1 ≤ sizeLine; decide, fun l hl => ?_⟩
    have sl : Same H1 (upd H1 l (.lst [v0])) := Same.new hl
    have F1 : FrD K (upd H1 l (.lst [v0])) (σ.set 4 (some (.ref l))) [some (.t (.s x.name :: x.args.map (argD Ix.d))), some (.i n), some (.i i), some (.i j), some (.v (.ref l)), none] := ((F.same e1).same sl).set (.v (.ref l)) 4
    -- for part in row[1:]
    refine ev_slice1 (K := K) (ev_var rfl) _ _ _ F1 fun vt H2 e2 r2 => ?_
    obtain ⟨p, ps, rfl, hps, rps⟩ := r2.tup
    have hl0 : H l = none := e1.free hl
    have hlen : ps.length = x.args.length := by rw [rps.length, List.length_map]
    have h2l : H2 l = some (.lst [v0]) := e2 _ _ upd_same
    have ev0 : v0 = .str x.name := r1.val
    subst ev0
    refine ⟨p, rfl, ⟨ps, hps⟩, for_tup (K := K) (a := p) (xs := ps) (fun k σ' H' => Bar l H2 H' ∧ (∃ vs, H' l = some (.lst (.str x.name :: vs)) ∧ ArgsX H' vs ((x.args.take k).map (argMap (fun p : Ix => p.at n i j)))) ∧
      FrD K H' σ' [some (.t (.s x.name :: x.args.map (argD Ix.d))), some (.i n), some (.i i), some (.i j), some (.v (.ref l)), none]) ⟨Bar.refl _ _, ⟨_, h2l, .nil⟩, F1.same e2⟩ (fun k σ' H' _ z => (z.1.stay h2l rfl).seqT hps) ?_ ?_⟩
    · rintro k y σ' H' hy ⟨b, ⟨vs, hvs, rvs⟩, F'⟩
      obtain ⟨d, hd, rd⟩ := rps.get' hy
      have hk : k < x.args.length := by
        have := (List.getElem?_eq_some_iff.mp hy).1
        omega
      have ea : d = argD Ix.d x.args[k] := by
        rw [List.getElem?_map, List.getElem?_eq_getElem hk] at hd
        exact (Option.some.inj hd).symm
      have mem : x.args[k] ∈ x.args := List.getElem_mem hk
      have et : (x.args.take (k + 1)).map (argMap (fun p : Ix => p.at n i j)) = (x.args.take k).map (argMap (fun p : Ix => p.at n i j)) ++ [argMap (fun p : Ix => p.at n i j) x.args[k]] := by
        rw [List.take_add_one, List.getElem?_eq_getElem hk, List.map_append]
        rfl
      have hvl : (V.str x.name :: vs).length < 100000 := by
        have h3 := (rvs.repL (K := K)).length
        simp only [List.length_cons, List.length_map, List.length_take] at h3 ⊢
        have := Row.args_len x
        omega
      have rdy : Rep K H' y d := rd.mono (b.stay h2l rfl)
      have F2 : FrD K H' (σ'.set 5 (some y)) [some (.t (.s x.name :: x.args.map (argD Ix.d))), some (.i n), some (.i i), some (.i j), some (.v (.ref l)), some d] := F'.set rdy 5
      have fin : ∀ v H3, Same H' H3 → ArgX H3 v (argMap (fun p : Ix => p.at n i j) x.args[k]) → (Bar l H2 (upd H3 l (.lst (.str x.name :: vs ++ [v]))) ∧ (∃ vs', upd H3 l (.lst (.str x.name :: vs ++ [v])) l = some (.lst (.str x.name :: vs')) ∧ ArgsX (upd H3 l (.lst (.str x.name :: vs ++ [v]))) vs' ((x.args.take (k + 1)).map (argMap (fun p : Ix => p.at n i j)))) ∧
          FrD K (upd H3 l (.lst (.str x.name :: vs ++ [v]))) (σ'.set 5 (some y)) [some (.t (.s x.name :: x.args.map (argD Ix.d))), some (.i n), some (.i i), some (.i j), some (.v (.ref l)), none]) := by
        intro v H3 e3 r3
        have st : Stay H3 (upd H3 l (.lst (.str x.name :: vs ++ [v]))) := Stay.upd (e3 _ _ hvs) rfl
        refine ⟨(b.trans (Bar.same e3)).trans Bar.upd, ⟨_, upd_same, ?_⟩, ?_⟩
        · rw [et]
          exact ((rvs.mono (Stay.same e3)).snoc r3).mono st
        · exact ((F2.same e3).mono st).forget 5
      subst ea
      cases hq : x.args[k] with
      | inl c =>
        rw [hq] at F2 fin
        have cok : c.p.ok := Row.args_ok hx c (by rw [← hq]; exact mem)
        refine (rs_B (K := K) (isi_tup (T := "tuple") (b := true) (ev_var rfl))) _ _ _ F2 fun H3 e3 => ?_
        refine st_append (R := fun v H4 => ArgX H4 v (.inl (c.map fun p : Ix => p.at n i j))) (at_of (F2.same e3) (ev_var rfl)) (e3 _ _ hvs) hvl (fun H4 e4 Q q4 => ata_of ((F2.same e3).same e4) (ea_cons (ev_ixn (n := 0) (ev_var rfl) rfl) (ea_cons (ev_call (ea_cons (ev_ixn (n := 1) (ev_var rfl) rfl) (ea_cons (ev_var rfl) (ea_cons (ev_var rfl) (ea_cons (ev_var rfl) ea_nil)))) ⟨c.p, n, i, j, rfl, cok, rfl⟩) ea_nil)) _ fun us H5 e5 r5 => ?_) fun v H4 e4 r4 => fin v H4 (e3.trans e4) r4
        have eus : us = [.str c.l.str, .int (c.p.at n i j)] := RepL.vals_eq (xs := [.str c.l.str, .int (c.p.at n i j)]) r5
        subst eus
        exact ⟨by show 2 ≤ sizeLine; decide, fun p hp => q4 _ _ (e5.trans (Same.new hp)) ⟨p, rfl, upd_same⟩⟩
      | inr dd =>
        rw [hq] at F2 fin
        refine (rs_B (K := K) (isi_int (T := "tuple") (b := false) (ev_var rfl))) _ _ _ F2 fun H3 e3 => ?_
        exact st_append (R := fun v H4 => ArgX H4 v (.inr dd)) (at_of (F2.same e3) (ev_var rfl)) (e3 _ _ hvs) hvl (fun H4 e4 Q q4 => at_of ((F2.same e3).same e4) (ev_var (d := .i dd) rfl) _ fun v H5 e5 r5 => q4 v H5 e5 r5.val) fun v H4 e4 r4 => fin v H4 (e3.trans e4) r4
    · rintro σ' H' ⟨b, ⟨vs, hvs, rvs⟩, F'⟩
      rw [hlen, List.take_length, ← Row.map_args] at rvs
      have sH : Same H H' := Bar.out (e1.trans (sl.trans e2)) hl0 b
      have rall : RepL K H' (.str x.name :: vs) (.s (plainRow n i j x).name :: (plainRow n i j x).args.map (argD D.i)) := .cons (by rw [show (plainRow n i j x).name = x.name from Row.map_name _ _]; exact .v _) rvs.repL
      have er : RowP.dat (plainRow n i j x) = .t (.s (plainRow n i j x).name :: (plainRow n i j x).args.map (argD D.i)) := Row.d_args _ _
      -- if not is_row(tuple(told)): raise
      refine st_skip (att_not (b := true) (att_B (at_call (ata_cons (at_tupleOf (at_of F' (ev_var (i := 4) rfl)) hvs rall) fun _ _ => ata_nil) ?_))) fun H3 e3 => ?_
      · exact ⟨⟨plainRow n i j x, by rw [er], hok⟩, rfl⟩
      -- return tuple(told)
      · refine at_of (F'.same e3) (ev_var (i := 4) rfl) _ fun y H4 e4 r4 => ?_
        cases r4.val
        refine ⟨l, _, rfl, .inl ⟨SqL.of (e4 _ _ (e3 _ _ hvs)), fun p hp => q _ _ (sH.trans (e3.trans (e4.trans (Same.new hp)))) ⟨p, vs, rfl, .inl (.inl ?_), rvs.mono (Stay.same (e3.trans (e4.trans (Same.new hp))))⟩⟩⟩
        rw [show (plainRow n i j x).name = x.name from Row.map_name _ _]
        exact upd_same
end Ww

set_option Elab.async false
set_option linter.all false
set_option maxRecDepth 100000
set_option maxHeartbeats 4000000
/-! W13a: unrolling as a plain function; methods at one state. -/
namespace Ww
open PySem PySem.Spec PyProof.Rows L2
/-! ### the mirror -/
def Cnt.num (k : Cnt) (w n : Int) : Nat := (k.many w n).toNat
def unroll1 (w n i : Int) : P1 → List RowP
  | .row r => [plainRow n i 0 r]
  | .rounds k _ ps => (List.range (k.num w n)).flatMap fun j => ps.map (plainRow n i (j : Nat))
def unroll2 (w n : Int) : P2 → List RowP
  | .row r => [plainRow n 0 0 r]
  | .rounds k _ ps => (List.range (k.num w n)).flatMap fun i => ps.flatMap (unroll1 w n (i : Nat))
def unroll (w n : Int) (t : Tell) : List RowP := t.flatMap (unroll2 w n)
def cnt1 (w n : Int) : P1 → Nat
  | .row _ => 0
  | .rounds k _ _ => k.num w n
def cnt2 (w n : Int) : P2 → Nat
  | .row _ => 0
  | .rounds k _ ps => k.num w n * (1 + (ps.map (cnt1 w n)).sum)
def Good (F : List RowP) : Prop := F.length ≤ 4000 ∧ ∀ r ∈ F, Row.ok place r
theorem Good.pre {A F : List RowP} (g : Good F) (h : A <+: F) : Good A := ⟨Nat.le_trans h.length_le g.1, fun r hr => g.2 r (h.subset hr)⟩
theorem flat_succ {α : Type} (f : Nat → List α) (j : Nat) : (List.range (j + 1)).flatMap f = (List.range j).flatMap f ++ f j := by
  rw [List.range_succ, List.flatMap_append]
  simp
theorem flat_pre {α : Type} (f : Nat → List α) {j m : Nat} (h : j ≤ m) : (List.range j).flatMap f <+: (List.range m).flatMap f := by
  induction m with
  | zero =>
    have : j = 0 := by omega
    subst this
    exact List.prefix_refl _
  | succ m ih =>
    by_cases e : j = m + 1
    · subst e
      exact List.prefix_refl _
    · rw [flat_succ]
      exact (ih (by omega)).trans (List.prefix_append _ _)
theorem take_succ_map {α β : Type} (f : α → β) {l : List α} {k : Nat} {x : α} (h : l[k]? = some x) : (l.take (k + 1)).map f = (l.take k).map f ++ [f x] := by
  rw [List.take_add_one, h, List.map_append]
  rfl
theorem take_succ_flat {α β : Type} (f : α → List β) {l : List α} {k : Nat} {x : α} (h : l[k]? = some x) : (l.take (k + 1)).flatMap f = (l.take k).flatMap f ++ f x := by
  rw [List.take_add_one, h, List.flatMap_append]
  simp
theorem take_flat_pre {α β : Type} (f : α → List β) (l : List α) (k : Nat) : (l.take k).flatMap f <+: l.flatMap f := by
  have e : l = l.take k ++ l.drop k := (List.take_append_drop k l).symm
  refine ⟨(l.drop k).flatMap f, ?_⟩
  rw [← List.flatMap_append, ← e]
theorem take_map_pre {α β : Type} (f : α → β) (l : List α) (k : Nat) : (l.take k).map f <+: l.map f := by
  have e : l = l.take k ++ l.drop k := (List.take_append_drop k l).symm
  refine ⟨(l.drop k).map f, ?_⟩
  rw [← List.map_append, ← e]
theorem sum_take_le {α : Type} (f : α → Nat) (l : List α) (k : Nat) : ((l.take k).map f).sum ≤ (l.map f).sum := by
  have e : l = l.take k ++ l.drop k := (List.take_append_drop k l).symm
  have h : (l.map f).sum = ((l.take k).map f).sum + ((l.drop k).map f).sum := by
    rw [← List.sum_append, ← List.map_append, ← e]
  omega
/-! ### methods, fields at one state -/
section
variable {K : PySem.W.Frag} {σ : L2.St} {H : Hp} {δ : DS} {te ta : TE} {d : D} {ds : List D} {E : Ends} {p C dx : Addr} {fs : List (Str × V)} {m f : Str} {sp : Sp} {XE : XK} {t : TA}
/-- o.m(..) as a statement -/
theorem st_meth (ha : At K ta σ H (.v (.ref p))) (ho : H p = some (.ins C dx fs)) (hl : fs.lookup m = none) (ht : ∀ H2, Same H H2 → AtA K t σ H2 ds)
    (q : ∀ vs H2, Same H H2 → RepL K H2 vs ds → sp (.ref p :: vs) H2 (fun _ H3 => E.nx σ H3) XE) : tDrop (tMeth C m sp [] XE ta t) E σ H := by
  refine ha _ fun x H1 e1 r1 => ?_
  cases r1.val
  refine ⟨p, dx, fs, rfl, e1 _ _ ho, hl, ht H1 e1 _ fun vs H2 e2 r2 => ?_⟩
  rw [List.append_nil]
  exact q vs H2 (e1.trans e2) r2
theorem st_fld {x : V} {tv : TE} (hv : At K tv σ H (.v x)) (ha : ∀ H2, Same H H2 → At K ta σ H2 (.v (.ref p))) (ho : H p = some (.ins C dx fs)) (hc : Cls K C) (hn : NoAttr K C f) (hz : fs.length < 1000)
    (q : ∀ H2, Same H H2 → E.nx σ (upd H2 p (.ins C dx (putF f x fs)))) : sFld K ta tv f E σ H := by
  refine hv _ fun y H1 e1 r1 => ?_
  cases r1.val
  refine ha H1 e1 _ fun z H2 e2 r2 => ?_
  cases r2.val
  exact ⟨p, C, dx, fs, rfl, e2 _ _ (e1 _ _ ho), hc, hn, hz, q H2 (e1.trans e2)⟩
theorem st_fldaug {n k : Int} {tv : TE} (ha : At K ta σ H (.v (.ref p))) (hv : ∀ H2, Same H H2 → At K tv σ H2 (.i k)) (ho : H p = some (.ins C dx fs)) (hc : Cls K C) (hn : NoAttr K C f) (hl : fs.lookup f = some (.int n)) (hz : fs.length < 1000)
    (q : ∀ H2, Same H H2 → E.nx σ (upd H2 p (.ins C dx (putF f (.int (n + k)) fs)))) : sFldAug K ta tv rAdd f E σ H := by
  refine ha _ fun y H1 e1 r1 => ?_
  cases r1.val
  refine ⟨p, C, dx, fs, _, rfl, e1 _ _ ho, hc, hn, hl, ?_⟩
  refine hv H1 e1 _ fun z H2 e2 r2 => ?_
  cases r2.val
  exact ⟨n, k, rfl, rfl, dx, fs, e2 _ _ (e1 _ _ ho), hz, q H2 (e1.trans e2)⟩
/-- all but two objects -/
def Bar2 (p l : Addr) (H H' : Hp) : Prop := ∀ b o, H b = some o → b ≠ p → b ≠ l → H' b = some o
theorem Bar2.refl (p l : Addr) (H : Hp) : Bar2 p l H H := fun _ _ h _ _ => h
theorem Bar2.trans {p l : Addr} {H H1 H2 : Hp} (a : Bar2 p l H H1) (b : Bar2 p l H1 H2) : Bar2 p l H H2 := fun c o h n m => b c o (a c o h n m) n m
theorem Bar2.same {p l : Addr} {H H' : Hp} (e : Same H H') : Bar2 p l H H' := fun c o h _ _ => e c o h
theorem Bar2.updL {p l : Addr} {H : Hp} {o : HO} : Bar2 p l H (upd H l o) := fun c u h n m => by
  rw [upd_ne m]
  exact h
theorem Bar2.updP {p l : Addr} {H : Hp} {o : HO} : Bar2 p l H (upd H p o) := fun c u h n m => by
  rw [upd_ne n]
  exact h
theorem Bar2.stay {p l : Addr} {H H' : Hp} {o u : HO} (b : Bar2 p l H H') (hp : H p = some o) (hi : imm o = false) (hl : H l = some u) (hj : imm u = false) : Stay H H' := fun c x e i => b c x e (fun q => by
    rw [q, hp] at e
    cases e
    rw [hi] at i
    cases i) fun q => by
    rw [q, hl] at e
    cases e
    rw [hj] at i
    cases i
theorem Bar2.out {p l : Addr} {H H1 H' : Hp} (e : Same H H1) (hp : H p = none) (hl : H l = none) (b : Bar2 p l H1 H') : Same H H' := fun c o q => b c o (e c o q) (ne_of_none q hp) (ne_of_none q hl)
end
end Ww

set_option Elab.async false
set_option linter.all false
set_option maxRecDepth 100000
set_option maxHeartbeats 4000000
/-! W13b: loops at one state; the unroller as an object. -/
namespace Ww
open PySem PySem.Spec PyProof.Rows L2
section
variable {K : PySem.W.Frag}
theorem at_geB {σ : L2.St} {H : Hp} {ta tb : TE} {n m : Int} {b : Bool} (ha : At K ta σ H (.i n)) (hb : ∀ H2, Same H H2 → At K tb σ H2 (.i m)) (h : decide (m ≤ n) = b) : At K (tOp (rI0 fun i j => .bl (decide (j ≤ i))) ta tb) σ H (.b b) := at_is (at_int0 ha hb) (by show D.b (decide (m ≤ n)) = _; rw [h])
theorem at_gtB {σ : L2.St} {H : Hp} {ta tb : TE} {n m : Int} {b : Bool} (ha : At K ta σ H (.i n)) (hb : ∀ H2, Same H H2 → At K tb σ H2 (.i m)) (h : decide (m < n) = b) : At K (tOp (rI0 fun i j => .bl (decide (j < i))) ta tb) σ H (.b b) := at_is (at_int0 ha hb) (by show D.b (decide (m < n)) = _; rw [h])
theorem at_ltB {σ : L2.St} {H : Hp} {ta tb : TE} {n m : Int} {b : Bool} (ha : At K ta σ H (.i n)) (hb : ∀ H2, Same H H2 → At K tb σ H2 (.i m)) (h : decide (n < m) = b) : At K (tOp (rI0 fun i j => .bl (decide (i < j))) ta tb) σ H (.b b) := at_is (at_int0 ha hb) (by show D.b (decide (n < m)) = _; rw [h])
theorem at_leB {σ : L2.St} {H : Hp} {ta tb : TE} {n m : Int} {b : Bool} (ha : At K ta σ H (.i n)) (hb : ∀ H2, Same H H2 → At K tb σ H2 (.i m)) (h : decide (n ≤ m) = b) : At K (tOp (rI0 fun i j => .bl (decide (i ≤ j))) ta tb) σ H (.b b) := at_is (at_int0 ha hb) (by show D.b (decide (n ≤ m)) = _; rw [h])
theorem st_forT {ds : List D} {a : Nat} {te : TE} {tb : L2.TS} {E : Ends} {σ : L2.St} {H : Hp} (Pv : Hp → Nat → L2.St → Hp → Prop) (h : At K te σ H (.t ds)) (h0 : ∀ H1, Same H H1 → Pv H1 0 σ H1)
    (hst : ∀ H1 i σ' H', Same H H1 → Pv H1 i σ' H' → Stay H1 H')
    (hb : ∀ H1 i d v σ' H', Same H H1 → ds[i]? = some d → Rep K H' v d → Pv H1 i σ' H' → tb { E with nx := Pv H1 (i + 1), ct := Pv H1 (i + 1), bk := E.nx } (σ'.set a (some v)) H')
    (hd : ∀ H1 σ' H', Same H H1 → Pv H1 ds.length σ' H' → E.nx σ' H') : tFor (iTup K te) (gName a) tb E σ H := by
  refine h _ fun v H1 e1 r1 => ?_
  obtain ⟨p, vs, rfl, hs, rl⟩ := r1.tup
  refine ⟨p, rfl, ⟨vs, hs⟩, for_tup (K := K) (a := p) (xs := vs) (Pv H1) (h0 H1 e1) (fun i σ' H' _ z => (hst H1 i σ' H' e1 z).seqT hs) ?_ fun σ2 H2 z => ?_⟩
  · intro i x σ2 H2 hx z
    obtain ⟨d, hd', rd⟩ := rl.get' hx
    exact hb H1 i d x σ2 H2 e1 hd' (rd.mono (hst H1 i σ2 H2 e1 z)) z
  · rw [rl.length] at z
    exact hd H1 σ2 H2 e1 z
theorem st_forR {n : Int} {a : Nat} {te : TE} {tb : L2.TS} {E : Ends} {σ : L2.St} {H : Hp} (Pv : Nat → L2.St → Hp → Prop) (h : At K te σ H (.i n)) (h1 : -(2 ^ 62) ≤ n) (h2 : n < 2 ^ 62) (h0 : ∀ H1, Same H H1 → Pv 0 σ H1)
    (hb : ∀ (i : Nat) σ' H', (i : Int) < n → Pv i σ' H' → tb { E with nx := Pv (i + 1), ct := Pv (i + 1), bk := E.nx } (σ'.set a (some (.int (i : Nat)))) H')
    (hd : ∀ σ' H', Pv n.toNat σ' H' → E.nx σ' H') : tFor (iRng1 (tCons te tNil)) (gName a) tb E σ H := by
  refine h _ fun v H1 e1 r1 => ?_
  cases r1.val
  refine ⟨n, rfl, h1, h2, for_range (lo := 0) (n := n.toNat) Pv (h0 H1 e1) ?_ fun σ2 H2 z => hd σ2 H2 z⟩
  intro i σ2 H2 hi z
  have e : (0 : Int) + (i : Nat) = (i : Nat) := by omega
  rw [e]
  exact hb i σ2 H2 (by omega) z
end
/-! ### the unroller -/
abbrev UC (K : PySem.W.Frag) : Addr := He.ga K "Unroller"
def uflds (w n : Int) (l : Addr) (r : Nat) : List (Str × V) := [("w", .int w), ("n", .int n), ("rows", .ref l), ("rounds", .int (r : Nat))]
structure UAt (K : PySem.W.Frag) (H : Hp) (p : Addr) (w n : Int) (l : Addr) (rows : List RowP) (r : Nat) : Prop where
  o : ∃ dx, H p = some (.ins (UC K) dx (uflds w n l r))
  l : ∃ vs, H l = some (.lst vs) ∧ RepXs K H vs rows
section
variable {K : PySem.W.Frag} {H H2 H' : Hp} {p l : Addr} {w n : Int} {rows : List RowP} {r : Nat}
theorem UAt.ne (u : UAt K H p w n l rows r) : p ≠ l := fun e => by
  obtain ⟨⟨dx, ho⟩, vs, hl, _⟩ := u
  rw [e, hl] at ho
  cases ho
theorem UAt.same (u : UAt K H p w n l rows r) (e : Same H H2) : UAt K H2 p w n l rows r := by
  obtain ⟨⟨dx, ho⟩, vs, hl, rv⟩ := u
  exact ⟨⟨dx, e _ _ ho⟩, vs, e _ _ hl, rv.same e⟩
theorem UAt.stay (u : UAt K H p w n l rows r) (b : Bar2 p l H H') : Stay H H' := by
  obtain ⟨⟨dx, ho⟩, vs, hl, rv⟩ := u
  exact b.stay ho rfl hl rfl
theorem UAt.push (u : UAt K H p w n l rows r) {vs : List V} {v : V} {x : RowP} (hl : H l = some (.lst vs)) (e : Same H H2) (rv : RepX K H2 v x) : UAt K (upd H2 l (.lst (vs ++ [v]))) p w n l (rows ++ [x]) r := by
  have hn := u.ne
  obtain ⟨⟨dx, ho⟩, us, hl', ru⟩ := u
  rw [hl] at hl'
  cases hl'
  refine ⟨⟨dx, ?_⟩, _, upd_same, ?_⟩
  · rw [upd_ne hn]
    exact e _ _ ho
  · exact ((ru.same e).snoc rv).mono (Stay.upd (e _ _ hl) rfl)
theorem UAt.fld {dx : Addr} {fs : List (Str × V)} {r' : Nat} (u : UAt K H p w n l rows r) (hf : fs = uflds w n l r') : UAt K (upd H p (.ins (UC K) dx fs)) p w n l rows r' := by
  subst hf
  have hn := u.ne
  obtain ⟨⟨dx, ho⟩, us, hl, ru⟩ := u
  refine ⟨⟨_, upd_same⟩, us, ?_, ru.mono (Stay.upd ho rfl)⟩
  rw [upd_ne hn.symm]
  exact hl
end
def USp (K : PySem.W.Frag) (A : Int → Int → List D → List RowP → Nat → List RowP → Nat → Prop) : Sp := fun vs H Q _ => ∃ p w n l rows r us ds news k, vs = .ref p :: us ∧ RepL K H us ds ∧ UAt K H p w n l rows r ∧ A w n ds rows r news k ∧
  ∀ H', Bar2 p l H H' → UAt K H' p w n l (rows ++ news) (r + k) → Q .non H'
theorem usp_len {K : PySem.W.Frag} {A : Int → Int → List D → List RowP → Nat → List RowP → Nat → Prop} {n : Nat} (h : ∀ w n' ds rows r news k, A w n' ds rows r news k → ds.length + 1 = n) {vs : List V} {H : Hp} {Q : VK} {E : XK} (hs : USp K A vs H Q E) : vs.length = n := by
  obtain ⟨p, w, n', l, rows, r, us, ds, news, k, rfl, ru, u, a, q⟩ := hs
  rw [List.length_cons, ru.length]
  exact h _ _ _ _ _ _ _ a
def putA (w n : Int) (ds : List D) (rows : List RowP) (r : Nat) (news : List RowP) (k : Nat) : Prop := ∃ (x : RowI) (i j : Int), ds = [x.dat, .i i, .i j] ∧ x.ok ∧ news = [plainRow n i j x] ∧ k = 0 ∧ Good (rows ++ news)
def roundA (w n : Int) (ds : List D) (rows : List RowP) (r : Nat) (news : List RowP) (k : Nat) : Prop := ds = [] ∧ news = [] ∧ k = 1 ∧ r + 1 ≤ 4000
def innerA (w n : Int) (ds : List D) (rows : List RowP) (r : Nat) (news : List RowP) (k : Nat) : Prop := ∃ (x : P1) (i : Int), ds = [x.dat, .i i] ∧ x.ok ∧ (0 ≤ n ∧ n ≤ 4) ∧ news = unroll1 w n i x ∧ k = cnt1 w n x ∧ Good (rows ++ news) ∧ r + k ≤ 4000
def goA (w n : Int) (ds : List D) (rows : List RowP) (r : Nat) (news : List RowP) (k : Nat) : Prop := ∃ (x : P2), ds = [x.dat] ∧ x.ok ∧ (0 ≤ n ∧ n ≤ 4) ∧ news = unroll2 w n x ∧ k = cnt2 w n x ∧ Good (rows ++ news) ∧ r + k ≤ 4000
end Ww

set_option Elab.async false
set_option linter.all false
set_option maxRecDepth 100000
set_option maxHeartbeats 4000000
/-! W13c: the unroller's methods (printed from W13c.src by gen1.py). -/
namespace Ww
open PySem PySem.Spec PyProof.Rows L2
open C8 (Cal CalAt Met Mak pe_c pe_mk pe_mt pe_mt0)
variable {P : Program} {w : World} {K : PySem.W.Frag} {mg : Str → Option Value} {base : Heap}

theorem sc_U_put_row : FnScope ["self", "row", "i", "j"] ["self", "row", "i", "j"] (defScope s_U_put_row) := ⟨rfl, rfl, rfl, by decide +kernel, rfl, by decide +kernel, by decide +kernel⟩
theorem met_U_put_row (T : Tx w K mg) : Met P w K mg base 8 (UC K) "put_row" (USp K putA) [] := by
  obtain ⟨fd, F⟩ := T.defn (d := d_U_put_row) 68 rfl
  refine ⟨_, fd, ["self", "row", "i", "j"], [], T.cls 93, T.meth 99, F.ok (k := 7) sc_U_put_row (fun vs H Q E h => usp_len (n := 4) ?_ h) (fun cdv A outer s H vs Q E hr h => ⟨_, PSs.nox (pss_cons (ps_if (pt_cmpR op_ge (pe_callB call_len_seq (by rfl) (T.free 63) PySem.boot_len (pa_cons (pe_fld (pv 0) rfl) pa_nil)) (pe_globI rfl (T.int 77)) (nomark _)) (pss_one ps_never) pss_nil) (pss_one (ps_expr (pe_bm PySem.F.plainAttrs_list PySem.F.slot_list_append PySem.F.type_list_append mt_append (pe_fld (pv 0) rfl) (pa_cons (pe_c (cal_plain_row T) hr (by decide) (by rfl) (pa_cons (pv 1) (pa_cons (pe_fld (pv 0) rfl) (pa_cons (pv 2) (pa_cons (pv 3) pa_nil))))) pa_nil))))), ?_⟩), F.bindsN (fun _ _ _ _ _ _ us hl => match us, hl with | [_, _, _, _], _ => rfl), .nil⟩
  · rintro w n ds rows r news k ⟨x, i, j, rfl, _⟩
    rfl
  obtain ⟨p, w, n, l, rows, r, us, ds, news, k, rfl, ru, u, ⟨x, i, j, rfl, hx, rfl, rfl, hg⟩, q⟩ := h
  obtain ⟨dx, ho⟩ := u.o
  obtain ⟨vs, hl, rv⟩ := u.l
  have F0 : FrD K H (L2.start ["self", "row", "i", "j"] (.ref p :: us)) [some (.v (.ref p)), some x.dat, some (.i i), some (.i j)] := FrD.start (N := ["self", "row", "i", "j"]) (.cons (.v _) ru)
  have hlen : vs.length = rows.length := by exact rv.length
  have hz : rows.length < 4000 := by
    have := hg.1
    rw [List.length_append, List.length_cons, List.length_nil] at this
    omega
  refine st_skip (att_test (at_geB (at_lenL (at_fld (at_of F0 (ev_var (i := 0) rfl)) ho (T.cls 93) (T.noat 97) rfl) (SqL.of hl) rfl) (fun _ _ => at_c) (decide_eq_false (by omega)))) fun H1 e1 => ?_
  refine st_append (R := fun v H2 => RepX K H2 v (plainRow n i j x)) (at_fld (at_of (F0.same e1) (ev_var (i := 0) rfl)) (e1 _ _ ho) (T.cls 93) (T.noat 97) rfl) (e1 _ _ hl) (by omega) (fun H2 e2 Q2 q2 => (ata_cons (at_of ((F0.same e1).same e2) (ev_var (i := 1) rfl)) fun H3 e3 => ata_cons (at_fld (at_of (((F0.same e1).same e2).same e3) (ev_var (i := 0) rfl)) (e3 _ _ (e2 _ _ (e1 _ _ ho))) (T.cls 93) (T.noat 96) rfl) fun H4 e4 => ata_of ((((F0.same e1).same e2).same e3).same e4) (ea_cons (ev_var (i := 2) rfl) (ea_cons (ev_var (i := 3) rfl) ea_nil))) _ fun us2 H5 e5 r5 => ⟨x, n, i, j, by rw [List.append_nil]; exact r5, hx, hg.2 _ (List.mem_append_right _ (List.mem_cons_self ..)), fun v H6 e6 r6 => q2 v H6 (e5.trans e6) r6⟩) fun v H2 e2 r2 => ?_
  exact q _ ((Bar2.same (e1.trans e2)).trans Bar2.updL) (u.push hl (e1.trans e2) r2)

theorem sc_U_begin_round : FnScope ["self"] ["self"] (defScope s_U_begin_round) := ⟨rfl, rfl, rfl, by decide +kernel, rfl, by decide +kernel, by decide +kernel⟩
theorem met_U_begin_round (T : Tx w K mg) : Met P w K mg base 1 (UC K) "begin_round" (USp K roundA) [] := by
  obtain ⟨fd, F⟩ := T.defn (d := d_U_begin_round) 69 rfl
  refine ⟨_, fd, ["self"], [], T.cls 93, T.meth 100, F.ok (k := 0) sc_U_begin_round (fun vs H Q E h => usp_len (n := 1) ?_ h) (fun cdv A outer s H vs Q E hr h => ⟨_, PSs.nox (pss_cons (ps_fldaug (pv 0) pe_int in_add) (pss_one (ps_if (pt_cmpR op_gt (pe_fld (pv 0) rfl) (pe_globI rfl (T.int 77)) (nomark _)) (pss_one ps_never) pss_nil))), ?_⟩), F.bindsN (fun _ _ _ _ _ _ us hl => match us, hl with | [_], _ => rfl), .nil⟩
  · rintro w n ds rows r news k ⟨rfl, _⟩
    rfl
  obtain ⟨p, w, n, l, rows, r, us, ds, news, k, rfl, ru, u, ⟨rfl, rfl, rfl, hk⟩, q⟩ := h
  obtain ⟨dx, ho⟩ := u.o
  have F0 : FrD K H (L2.start ["self"] (.ref p :: us)) [some (.v (.ref p))] := FrD.start (N := ["self"]) (.cons (.v _) ru)
  refine st_fldaug (n := (r : Nat)) (k := 1) (at_of F0 (ev_var (i := 0) rfl)) (fun _ _ => at_c) ho (T.cls 93) (T.noat 98) rfl (by show 4 < 1000; decide) fun H1 e1 => ?_
  have u1 : UAt K (upd H1 p (.ins (UC K) dx (putF "rounds" (.int ((r : Nat) + 1)) (uflds w n l r)))) p w n l rows (r + 1) := (u.same e1).fld (by
    have e : ((r : Nat) : Int) + 1 = ((r + 1 : Nat) : Int) := by omega
    rw [e]
    rfl)
  obtain ⟨dx1, ho1⟩ := u1.o
  have F1 : FrD K (upd H1 p (.ins (UC K) dx (putF "rounds" (.int ((r : Nat) + 1)) (uflds w n l r)))) (L2.start ["self"] (.ref p :: us)) [some (.v (.ref p))] := (F0.same e1).mono (Stay.upd (e1 _ _ ho) rfl)
  refine st_ifF (att_test (at_gtB (n := ((r + 1 : Nat) : Int)) (at_fld (at_of F1 (ev_var (i := 0) rfl)) ho1 (T.cls 93) (T.noat 98) rfl) (fun _ _ => at_c) (decide_eq_false (by omega)))) fun H2 e2 => ?_
  rw [List.append_nil] at q
  exact q _ (((Bar2.same e1).trans Bar2.updP).trans (Bar2.same e2)) (u1.same e2)
theorem look_u {w n : Int} {l : Addr} {r : Nat} (m : Str) (h : (m == "w") = false ∧ (m == "n") = false ∧ (m == "rows") = false ∧ (m == "rounds") = false) : (uflds w n l r).lookup m = none := by
  obtain ⟨h1, h2, h3, h4⟩ := h
  simp only [uflds, List.lookup, h1, h2, h3, h4]
theorem many_le {k : Cnt} {w n : Int} {m : Nat} (h : k.num w n ≤ m) : k.many w n ≤ (m : Int) ∧ 0 ≤ k.many w n := by
  have h1 : 0 ≤ k.many w n := by
    unfold Cnt.many
    split <;> omega
  unfold Cnt.num at h
  exact ⟨by omega, h1⟩
theorem rows_assoc {α : Type} {a : List α} {f : Nat → List α} (j : Nat) : a ++ (List.range j).flatMap f ++ f j = a ++ (List.range (j + 1)).flatMap f := by
  rw [flat_succ, List.append_assoc]
end Ww

set_option Elab.async false
set_option linter.all false
set_option maxRecDepth 100000
set_option maxHeartbeats 4000000
/-! W13d: the unroller's rounds (printed from W13d.src by gen1.py). -/
namespace Ww
open PySem PySem.Spec PyProof.Rows L2
open C8 (Cal CalAt Met Mak pe_c pe_mk pe_mt pe_mt0)
variable {P : Program} {w : World} {K : PySem.W.Frag} {mg : Str → Option Value} {base : Heap}

theorem sc_U_go_inner : FnScope ["self", "part", "i", "j", "deep"] ["self", "part", "i"] (defScope s_U_go_inner) := ⟨rfl, rfl, rfl, by decide +kernel, rfl, by decide +kernel, by decide +kernel⟩
theorem met_U_go_inner (T : Tx w K mg) : Met P w K mg base 9 (UC K) "go_inner" (USp K innerA) [] := by
  obtain ⟨fd, F⟩ := T.defn (d := d_U_go_inner) 70 rfl
  refine ⟨_, fd, ["self", "part", "i"], [], T.cls 93, T.meth 101, F.ok (k := 8) sc_U_go_inner (fun vs H Q E h => usp_len (n := 3) ?_ h) (fun cdv A outer s H vs Q E hr h => ⟨_, PSs.nox (pss_one (ps_if (pt_cmpR op_eq (pe_ix ix_tup (pv 1) pe_int (fun _ _ => rfl)) pe_str (nomark _)) (pss_one (ps_expr (pe_mt (met_U_put_row T) hr (by decide) (pv 0) (pa_cons (pe_ix ix_tup (pv 1) pe_int (fun _ _ => rfl)) (pa_cons (pv 2) (pa_cons pe_int pa_nil)))))) (pss_one (ps_for PassesOwn.never rfl (pi_range1 rfl (T.free 72) (pa_cons (pe_c (cal_count_of T) hr (by decide) (by rfl) (pa_cons (pe_ix ix_tup (pv 1) pe_int (fun _ _ => rfl)) (pa_cons (pe_fld (pv 0) rfl) (pa_cons (pe_fld (pv 0) rfl) pa_nil)))) pa_nil)) (pg_name (i := 3) sc_U_go_inner.nd rfl (Or.inl rfl)) (pss_cons (ps_expr (pe_mt0 (met_U_begin_round T) hr (by decide) (pv 0))) (pss_one (ps_for PassesOwn.never rfl (pi_tup (pe_ix ix_tup (pv 1) pe_int (fun _ _ => rfl))) (pg_name (i := 4) sc_U_go_inner.nd rfl (Or.inl rfl)) (pss_one (ps_expr (pe_mt (met_U_put_row T) hr (by decide) (pv 0) (pa_cons (pe_ix ix_tup (pv 4) pe_int (fun _ _ => rfl)) (pa_cons (pv 2) (pa_cons (pv 3) pa_nil))))))))))))), ?_⟩), F.bindsN (fun _ _ _ _ _ _ us hl => match us, hl with | [_, _, _], _ => rfl), .nil⟩
  · rintro w n ds rows r news k ⟨x, i, rfl, _⟩
    rfl
  obtain ⟨p, w, n, l, rows, r, us, ds, news, k, rfl, ru, u, ⟨x, i, rfl, hx, hn, rfl, rfl, hg, hk⟩, q⟩ := h
  obtain ⟨dx, ho⟩ := u.o
  have F0 : FrD K H (L2.start ["self", "part", "i", "j", "deep"] (.ref p :: us)) [some (.v (.ref p)), some x.dat, some (.i i), none, none] := FrD.start (N := ["self", "part", "i", "j", "deep"]) (.cons (.v _) ru)
  cases x with
  | row y =>
    have F1 : FrD K H (L2.start ["self", "part", "i", "j", "deep"] (.ref p :: us)) [some (.v (.ref p)), some (.t [.s "row", y.dat]), some (.i i), none, none] := F0
    refine st_ifT (att_of F1 (et_test (ev_eqB (b := true) (ev_ixn (ev_var (i := 1) rfl) rfl) ev_c (by decide)))) fun H1 e1 => ?_
    refine st_meth (ds := [y.dat, .i i, .i 0]) (at_of (F1.same e1) (ev_var (i := 0) rfl)) (e1 _ _ ho) (look_u "put_row" (by decide)) (fun H2 e2 => ata_of ((F1.same e1).same e2) (ea_cons (ev_ixn (n := 1) (ev_var (i := 1) rfl) rfl) (ea_cons (ev_var (i := 2) rfl) (ea_cons ev_c ea_nil)))) fun vs H2 e2 rv => ?_
    exact ⟨p, w, n, l, rows, r, vs, _, _, 0, rfl, rv, (u.same (e1.trans e2)), ⟨y, i, 0, rfl, hx, rfl, rfl, hg⟩, fun H' b u' => q H' ((Bar2.same (e1.trans e2)).trans b) u'⟩
  | rounds c se ps =>
    have F1 : FrD K H (L2.start ["self", "part", "i", "j", "deep"] (.ref p :: us)) [some (.v (.ref p)), some (.t [.s "rounds", c.d, Sent.d se, .t (ps.map rowPart)]), some (.i i), none, none] := F0
    have hkm : c.num w n ≤ 4000 := by
      have : cnt1 w n (.rounds c se ps) = c.num w n := rfl
      omega
    have hm := many_le hkm
    have hnum : (c.num w n : Int) = c.many w n := by
      unfold Cnt.num
      omega
    refine st_ifF (att_of F1 (et_test (ev_eqB (b := false) (ev_ixn (ev_var (i := 1) rfl) rfl) ev_c (by decide)))) fun H1 e1 => ?_
    refine st_forR (n := c.many w n) (fun j σ' H' => Bar2 p l H H' ∧ UAt K H' p w n l (rows ++ (List.range j).flatMap fun j => ps.map (plainRow n i (j : Nat))) (r + j) ∧ FrD K H' σ' [some (.v (.ref p)), some (.t [.s "rounds", c.d, Sent.d se, .t (ps.map rowPart)]), some (.i i), none, none])
      (at_call (ata_cons (at_of (F1.same e1) (ev_ixn (ev_var (i := 1) rfl) rfl)) fun H2 e2 => ata_cons (at_fld (at_of ((F1.same e1).same e2) (ev_var (i := 0) rfl)) (e2 _ _ (e1 _ _ ho)) (T.cls 93) (T.noat 95) rfl) fun H3 e3 => ata_cons (at_fld (at_of (((F1.same e1).same e2).same e3) (ev_var (i := 0) rfl)) (e3 _ _ (e2 _ _ (e1 _ _ ho))) (T.cls 93) (T.noat 96) rfl) fun _ _ => ata_nil) ⟨c, w, n, rfl, hx.1, hn, rfl⟩) (by omega) (by omega) (fun H2 e2 => ⟨Bar2.same (e1.trans e2), by
        show UAt K H2 p w n l (rows ++ []) r
        rw [List.append_nil]
        exact u.same (e1.trans e2), F1.same (e1.trans e2)⟩) ?_ ?_
    · rintro j σ' H' hj ⟨b, u', F'⟩
      have hjn : j < c.num w n := by omega
      obtain ⟨dx', ho'⟩ := u'.o
      have F2 : FrD K H' (σ'.set 3 (some (.int (j : Nat)))) [some (.v (.ref p)), some (.t [.s "rounds", c.d, Sent.d se, .t (ps.map rowPart)]), some (.i i), some (.i (j : Nat)), none] := F'.set (.v _) 3
      refine st_meth (ds := []) (at_of F2 (ev_var (i := 0) rfl)) ho' (look_u "begin_round" (by decide)) (fun H2 e2 => ata_nil) fun vs H2 e2 rv => ?_
      refine ⟨p, w, n, l, _, _, vs, _, _, 1, rfl, rv, u'.same e2, ⟨rfl, rfl, rfl, ?_⟩, fun H3 b3 u3 => ?_⟩
      · have : cnt1 w n (.rounds c se ps) = c.num w n := rfl
        omega
      rw [List.append_nil] at u3
      have F3 := F2.mono ((Stay.same e2).trans ((u'.same e2).stay b3))
      refine st_forT (ds := ps.map rowPart) (fun H4 k σ'' H'' => Bar2 p l H4 H'' ∧ UAt K H'' p w n l ((rows ++ (List.range j).flatMap fun j => ps.map (plainRow n i (j : Nat))) ++ (ps.take k).map (plainRow n i (j : Nat))) (r + j + 1) ∧ FrD K H'' σ'' [some (.v (.ref p)), some (.t [.s "rounds", c.d, Sent.d se, .t (ps.map rowPart)]), some (.i i), some (.i (j : Nat)), none])
        (at_of F3 (ev_ixn (ev_var (i := 1) rfl) rfl)) (fun H4 e4 => ⟨Bar2.refl _ _ _, by
          show UAt K H4 p w n l (_ ++ []) (r + j + 1)
          rw [List.append_nil]
          exact u3.same e4, F3.same e4⟩) (fun H4 k σ'' H'' e4 z => (u3.same e4).stay z.1) ?_ ?_
      · rintro H4 k d v σ'' H'' e4 hd rd ⟨b4, u4, F4⟩
        obtain ⟨dx4, ho4⟩ := u4.o
        rw [List.getElem?_map] at hd
        obtain ⟨y, hy, rfl⟩ := Option.map_eq_some_iff.mp hd
        have F5 : FrD K H'' (σ''.set 4 (some v)) [some (.v (.ref p)), some (.t [.s "rounds", c.d, Sent.d se, .t (ps.map rowPart)]), some (.i i), some (.i (j : Nat)), some (.t [.s "row", y.dat])] := F4.set rd 4
        refine st_meth (ds := [y.dat, .i i, .i (j : Nat)]) (at_of F5 (ev_var (i := 0) rfl)) ho4 (look_u "put_row" (by decide)) (fun H2 e2 => ata_of (F5.same e2) (ea_cons (ev_ixn (n := 1) (ev_var (i := 4) rfl) rfl) (ea_cons (ev_var (i := 2) rfl) (ea_cons (ev_var (i := 3) rfl) ea_nil)))) fun vs H5 e5 rv => ?_
        have eg : ((rows ++ (List.range j).flatMap fun j => ps.map (plainRow n i (j : Nat))) ++ (ps.take k).map (plainRow n i (j : Nat))) ++ [plainRow n i (j : Nat) y] = (rows ++ (List.range j).flatMap fun j => ps.map (plainRow n i (j : Nat))) ++ (ps.take (k + 1)).map (plainRow n i (j : Nat)) := by
          rw [take_succ_map _ hy, List.append_assoc]
        refine ⟨p, w, n, l, _, _, vs, _, _, 0, rfl, rv, u4.same e5, ⟨y, i, j, rfl, hx.2.2 y (List.mem_of_getElem? hy), rfl, rfl, ?_⟩, fun H6 b6 u6 => ?_⟩
        · rw [eg]
          refine hg.pre ?_
          refine List.IsPrefix.trans ((List.prefix_append_right_inj _).mpr (take_map_pre _ ps (k + 1))) ?_
          rw [rows_assoc (f := fun j => ps.map (plainRow n i (j : Nat)))]
          exact (List.prefix_append_right_inj _).mpr (flat_pre _ hjn)
        · rw [eg] at u6
          exact ⟨(b4.trans (Bar2.same e5)).trans b6, u6, (F5.mono ((Stay.same e5).trans ((u4.same e5).stay b6))).forget 4⟩
      · rintro H4 σ'' H'' e4 ⟨b4, u4, F4⟩
        refine ⟨(b.trans (Bar2.same e2)).trans (b3.trans ((Bar2.same e4).trans b4)), ?_, F4.forget 3⟩
        rw [List.length_map, List.take_length, rows_assoc (f := fun j => ps.map (plainRow n i (j : Nat)))] at u4
        exact u4
    · rintro σ' H' ⟨b, u', F'⟩
      refine q H' b ?_
      have e : (c.many w n).toNat = c.num w n := rfl
      rw [e] at u'
      exact u'
end Ww

set_option Elab.async false
set_option linter.all false
set_option maxRecDepth 100000
set_option maxHeartbeats 4000000
/-! W13e: the unroller's go (printed from W13e.src by gen1.py). -/
namespace Ww
open PySem PySem.Spec PyProof.Rows L2
open C8 (Cal CalAt Met Mak pe_c pe_mk pe_mt pe_mt0)
variable {P : Program} {w : World} {K : PySem.W.Frag} {mg : Str → Option Value} {base : Heap}

theorem sc_U_go : FnScope ["self", "part", "i", "inner"] ["self", "part"] (defScope s_U_go) := ⟨rfl, rfl, rfl, by decide +kernel, rfl, by decide +kernel, by decide +kernel⟩
theorem met_U_go (T : Tx w K mg) : Met P w K mg base 10 (UC K) "go" (USp K goA) [] := by
  obtain ⟨fd, F⟩ := T.defn (d := d_U_go) 71 rfl
  refine ⟨_, fd, ["self", "part"], [], T.cls 93, T.meth 102, F.ok (k := 9) sc_U_go (fun vs H Q E h => usp_len (n := 2) ?_ h) (fun cdv A outer s H vs Q E hr h => ⟨_, PSs.nox (pss_one (ps_if (pt_cmpR op_eq (pe_ix ix_tup (pv 1) pe_int (fun _ _ => rfl)) pe_str (nomark _)) (pss_one (ps_expr (pe_mt (met_U_put_row T) hr (by decide) (pv 0) (pa_cons (pe_ix ix_tup (pv 1) pe_int (fun _ _ => rfl)) (pa_cons pe_int (pa_cons pe_int pa_nil)))))) (pss_one (ps_for PassesOwn.never rfl (pi_range1 rfl (T.free 72) (pa_cons (pe_c (cal_count_of T) hr (by decide) (by rfl) (pa_cons (pe_ix ix_tup (pv 1) pe_int (fun _ _ => rfl)) (pa_cons (pe_fld (pv 0) rfl) (pa_cons (pe_fld (pv 0) rfl) pa_nil)))) pa_nil)) (pg_name (i := 2) sc_U_go.nd rfl (Or.inl rfl)) (pss_cons (ps_expr (pe_mt0 (met_U_begin_round T) hr (by decide) (pv 0))) (pss_one (ps_for PassesOwn.never rfl (pi_tup (pe_ix ix_tup (pv 1) pe_int (fun _ _ => rfl))) (pg_name (i := 3) sc_U_go.nd rfl (Or.inl rfl)) (pss_one (ps_expr (pe_mt (met_U_go_inner T) hr (by decide) (pv 0) (pa_cons (pv 3) (pa_cons (pv 2) pa_nil)))))))))))), ?_⟩), F.bindsN (fun _ _ _ _ _ _ us hl => match us, hl with | [_, _], _ => rfl), .nil⟩
  · rintro w n ds rows r news k ⟨x, rfl, _⟩
    rfl
  obtain ⟨p, w, n, l, rows, r, us, ds, news, k, rfl, ru, u, ⟨x, rfl, hx, hn, rfl, rfl, hg, hk⟩, q⟩ := h
  obtain ⟨dx, ho⟩ := u.o
  have F0 : FrD K H (L2.start ["self", "part", "i", "inner"] (.ref p :: us)) [some (.v (.ref p)), some x.dat, none, none] := FrD.start (N := ["self", "part", "i", "inner"]) (.cons (.v _) ru)
  cases x with
  | row y =>
    have F1 : FrD K H (L2.start ["self", "part", "i", "inner"] (.ref p :: us)) [some (.v (.ref p)), some (.t [.s "row", y.dat]), none, none] := F0
    refine st_ifT (att_of F1 (et_test (ev_eqB (b := true) (ev_ixn (ev_var (i := 1) rfl) rfl) ev_c (by decide)))) fun H1 e1 => ?_
    refine st_meth (ds := [y.dat, .i 0, .i 0]) (at_of (F1.same e1) (ev_var (i := 0) rfl)) (e1 _ _ ho) (look_u "put_row" (by decide)) (fun H2 e2 => ata_of ((F1.same e1).same e2) (ea_cons (ev_ixn (n := 1) (ev_var (i := 1) rfl) rfl) (ea_cons ev_c (ea_cons ev_c ea_nil)))) fun vs H2 e2 rv => ?_
    exact ⟨p, w, n, l, rows, r, vs, _, _, 0, rfl, rv, (u.same (e1.trans e2)), ⟨y, 0, 0, rfl, hx, rfl, rfl, hg⟩, fun H' b u' => q H' ((Bar2.same (e1.trans e2)).trans b) u'⟩
  | rounds c se ps =>
    have F1 : FrD K H (L2.start ["self", "part", "i", "inner"] (.ref p :: us)) [some (.v (.ref p)), some (.t [.s "rounds", c.d, Sent.d se, .t (ps.map P1.dat)]), none, none] := F0
    have hcn : cnt2 w n (.rounds c se ps) = c.num w n * (1 + (ps.map (cnt1 w n)).sum) := rfl
    rw [hcn] at hk
    have hkm : c.num w n ≤ 4000 := by
      have h1 : c.num w n * 1 ≤ c.num w n * (1 + (ps.map (cnt1 w n)).sum) := Nat.mul_le_mul_left _ (by omega)
      omega
    have hm := many_le hkm
    have hnum : (c.num w n : Int) = c.many w n := by
      unfold Cnt.num
      omega
    refine st_ifF (att_of F1 (et_test (ev_eqB (b := false) (ev_ixn (ev_var (i := 1) rfl) rfl) ev_c (by decide)))) fun H1 e1 => ?_
    refine st_forR (n := c.many w n) (fun i σ' H' => Bar2 p l H H' ∧ UAt K H' p w n l (rows ++ (List.range i).flatMap fun i => ps.flatMap (unroll1 w n (i : Nat))) (r + i * (1 + (ps.map (cnt1 w n)).sum)) ∧ FrD K H' σ' [some (.v (.ref p)), some (.t [.s "rounds", c.d, Sent.d se, .t (ps.map P1.dat)]), none, none])
      (at_call (ata_cons (at_of (F1.same e1) (ev_ixn (ev_var (i := 1) rfl) rfl)) fun H2 e2 => ata_cons (at_fld (at_of ((F1.same e1).same e2) (ev_var (i := 0) rfl)) (e2 _ _ (e1 _ _ ho)) (T.cls 93) (T.noat 95) rfl) fun H3 e3 => ata_cons (at_fld (at_of (((F1.same e1).same e2).same e3) (ev_var (i := 0) rfl)) (e3 _ _ (e2 _ _ (e1 _ _ ho))) (T.cls 93) (T.noat 96) rfl) fun _ _ => ata_nil) ⟨c, w, n, rfl, hx.1, hn, rfl⟩) (by omega) (by omega) (fun H2 e2 => ⟨Bar2.same (e1.trans e2), by
        show UAt K H2 p w n l (rows ++ []) (r + 0 * _)
        rw [List.append_nil, Nat.zero_mul]
        exact u.same (e1.trans e2), F1.same (e1.trans e2)⟩) ?_ ?_
    · rintro i σ' H' hj ⟨b, u', F'⟩
      have hjn : i < c.num w n := by omega
      have hrr : r + i * (1 + (ps.map (cnt1 w n)).sum) + (1 + (ps.map (cnt1 w n)).sum) ≤ 4000 := by
        have h1 : (i + 1) * (1 + (ps.map (cnt1 w n)).sum) ≤ c.num w n * (1 + (ps.map (cnt1 w n)).sum) := Nat.mul_le_mul_right _ hjn
        rw [Nat.succ_mul] at h1
        omega
      obtain ⟨dx', ho'⟩ := u'.o
      have F2 : FrD K H' (σ'.set 2 (some (.int (i : Nat)))) [some (.v (.ref p)), some (.t [.s "rounds", c.d, Sent.d se, .t (ps.map P1.dat)]), some (.i (i : Nat)), none] := F'.set (.v _) 2
      refine st_meth (ds := []) (at_of F2 (ev_var (i := 0) rfl)) ho' (look_u "begin_round" (by decide)) (fun H2 e2 => ata_nil) fun vs H2 e2 rv => ?_
      refine ⟨p, w, n, l, _, _, vs, _, _, 1, rfl, rv, u'.same e2, ⟨rfl, rfl, rfl, by omega⟩, fun H3 b3 u3 => ?_⟩
      rw [List.append_nil] at u3
      have F3 := F2.mono ((Stay.same e2).trans ((u'.same e2).stay b3))
      refine st_forT (ds := ps.map P1.dat) (fun H4 k σ'' H'' => Bar2 p l H4 H'' ∧ UAt K H'' p w n l ((rows ++ (List.range i).flatMap fun i => ps.flatMap (unroll1 w n (i : Nat))) ++ (ps.take k).flatMap (unroll1 w n (i : Nat))) (r + i * (1 + (ps.map (cnt1 w n)).sum) + 1 + ((ps.take k).map (cnt1 w n)).sum) ∧ FrD K H'' σ'' [some (.v (.ref p)), some (.t [.s "rounds", c.d, Sent.d se, .t (ps.map P1.dat)]), some (.i (i : Nat)), none])
        (at_of F3 (ev_ixn (ev_var (i := 1) rfl) rfl)) (fun H4 e4 => ⟨Bar2.refl _ _ _, by
          show UAt K H4 p w n l (_ ++ []) (_ + 1 + 0)
          rw [List.append_nil]
          exact u3.same e4, F3.same e4⟩) (fun H4 k σ'' H'' e4 z => (u3.same e4).stay z.1) ?_ ?_
      · rintro H4 k d v σ'' H'' e4 hd rd ⟨b4, u4, F4⟩
        obtain ⟨dx4, ho4⟩ := u4.o
        rw [List.getElem?_map] at hd
        obtain ⟨y, hy, rfl⟩ := Option.map_eq_some_iff.mp hd
        have F5 : FrD K H'' (σ''.set 3 (some v)) [some (.v (.ref p)), some (.t [.s "rounds", c.d, Sent.d se, .t (ps.map P1.dat)]), some (.i (i : Nat)), some y.dat] := F4.set rd 3
        refine st_meth (ds := [y.dat, .i (i : Nat)]) (at_of F5 (ev_var (i := 0) rfl)) ho4 (look_u "go_inner" (by decide)) (fun H2 e2 => ata_of (F5.same e2) (ea_cons (ev_var (i := 3) rfl) (ea_cons (ev_var (i := 2) rfl) ea_nil))) fun vs H5 e5 rv => ?_
        have eg : ((rows ++ (List.range i).flatMap fun i => ps.flatMap (unroll1 w n (i : Nat))) ++ (ps.take k).flatMap (unroll1 w n (i : Nat))) ++ unroll1 w n (i : Nat) y = (rows ++ (List.range i).flatMap fun i => ps.flatMap (unroll1 w n (i : Nat))) ++ (ps.take (k + 1)).flatMap (unroll1 w n (i : Nat)) := by
          rw [take_succ_flat _ hy, List.append_assoc]
        have ek : ((ps.take (k + 1)).map (cnt1 w n)).sum = ((ps.take k).map (cnt1 w n)).sum + cnt1 w n y := by
          rw [take_succ_map _ hy, List.sum_append, List.sum_cons, List.sum_nil, Nat.add_zero]
        have hsl := sum_take_le (cnt1 w n) ps (k + 1)
        refine ⟨p, w, n, l, _, _, vs, _, _, cnt1 w n y, rfl, rv, u4.same e5, ⟨y, i, rfl, hx.2.2 y (List.mem_of_getElem? hy), hn, rfl, rfl, ?_, by omega⟩, fun H6 b6 u6 => ?_⟩
        · rw [eg]
          refine hg.pre ?_
          refine List.IsPrefix.trans ((List.prefix_append_right_inj _).mpr (take_flat_pre _ ps (k + 1))) ?_
          rw [rows_assoc (f := fun i => ps.flatMap (unroll1 w n (i : Nat)))]
          exact (List.prefix_append_right_inj _).mpr (flat_pre _ hjn)
        · rw [eg, Nat.add_assoc _ _ (cnt1 w n y), ← ek] at u6
          exact ⟨(b4.trans (Bar2.same e5)).trans b6, u6, (F5.mono ((Stay.same e5).trans ((u4.same e5).stay b6))).forget 3⟩
      · rintro H4 σ'' H'' e4 ⟨b4, u4, F4⟩
        refine ⟨(b.trans (Bar2.same e2)).trans (b3.trans ((Bar2.same e4).trans b4)), ?_, F4.forget 2⟩
        rw [List.length_map, List.take_length, rows_assoc (f := fun i => ps.flatMap (unroll1 w n (i : Nat)))] at u4
        have e : r + (i + 1) * (1 + (ps.map (cnt1 w n)).sum) = r + i * (1 + (ps.map (cnt1 w n)).sum) + 1 + (ps.map (cnt1 w n)).sum := by
          rw [Nat.succ_mul]
          omega
        rw [e]
        exact u4
    · rintro σ' H' ⟨b, u', F'⟩
      refine q H' b ?_
      have e : (c.many w n).toNat = c.num w n := rfl
      rw [e] at u'
      exact u'

theorem sc_U_init : FnScope ["self", "w", "n"] ["self", "w", "n"] (defScope s_U_init) := ⟨rfl, rfl, rfl, by decide +kernel, rfl, by decide +kernel, by decide +kernel⟩
def initU (K : PySem.W.Frag) : Sp := fun vs H Q _ => ∃ p dx w n, vs = [.ref p, .int w, .int n] ∧ H p = some (.ins (UC K) dx []) ∧ ∀ l H', H l = none → Bar2 p l H H' → UAt K H' p w n l [] 0 → Q .non H'
theorem mak_Unroller (T : Tx w K mg) : Mak P w K mg base 1 "Unroller" (UC K) (initU K) [] := by
  obtain ⟨fd, F⟩ := T.defn (d := d_U_init) 67 rfl
  refine ⟨_, fd, ["self", "w", "n"], [], T.mkr 94, F.ok (k := 0) sc_U_init (fun vs H Q E h => ?_) (fun cdv A outer s H vs Q E hr h => ⟨_, PSs.nox (pss_cons (ps_fld (pv 0) (pv 1) rfl) (pss_cons (ps_fld (pv 0) (pv 2) rfl) (pss_cons (ps_fld (pv 0) (pe_lst pa_nil) rfl) (pss_one (ps_fld (pv 0) pe_int rfl))))), ?_⟩), T.glo 58, F.bindsN (fun _ _ _ _ _ _ us hl => match us, hl with | [_, _, _], _ => rfl), .nil⟩
  · obtain ⟨p, dx, w, n, rfl, _⟩ := h
    rfl
  obtain ⟨p, dx, w, n, rfl, ho, q⟩ := h
  have v0 : ∀ H, At K (tVar 0) (L2.start ["self", "w", "n"] [.ref p, .int w, .int n]) H (.v (.ref p)) := fun H => at_var rfl
  have v1 : ∀ H, At K (tVar 1) (L2.start ["self", "w", "n"] [.ref p, .int w, .int n]) H (.v (.int w)) := fun H => at_var rfl
  have v2 : ∀ H, At K (tVar 2) (L2.start ["self", "w", "n"] [.ref p, .int w, .int n]) H (.v (.int n)) := fun H => at_var rfl
  refine st_fld (v1 _) (fun _ _ => v0 _) ho (T.cls 93) (T.noat 95) (by decide) fun H1 e1 => ?_
  refine st_fld (v2 _) (fun _ _ => v0 _) upd_same (T.cls 93) (T.noat 96) (by show 1 < 1000; decide) fun H2 e2 => ?_
  refine ⟨by decide, fun l hl => ?_⟩
  refine v0 _ _ fun y H3 e3 r3 => ?_
  cases r3.val
  have hpl : p ≠ l := fun e => by
    rw [e, upd_same] at hl
    cases hl
  have h3 : H3 p = some (.ins (UC K) dx [("w", .int w), ("n", .int n)]) := e3 _ _ (by
    rw [upd_ne hpl]
    exact upd_same)
  have h3l : H3 l = some (.lst []) := e3 _ _ upd_same
  refine ⟨p, UC K, dx, _, rfl, h3, T.cls 93, T.noat 97, by show 2 < 1000; decide, ?_⟩
  refine st_fld at_c (fun _ _ => v0 _) upd_same (T.cls 93) (T.noat 98) (by show 3 < 1000; decide) fun H4 e4 => ?_
  have b12 : Bar2 p l H (upd H2 p (.ins (UC K) dx [("w", .int w), ("n", .int n)])) := (((Bar2.same e1).trans Bar2.updP).trans (Bar2.same e2)).trans Bar2.updP
  have hHl : H l = none := by
    cases e : H l with
    | none => rfl
    | some o =>
      have := b12
      rcases Classical.em (l = p) with e' | e'
      · exact absurd e'.symm hpl
      · have a1 := e1 _ _ e
        have a2 : upd H1 p (.ins (UC K) dx (putF "w" (.int w) [])) l = some o := by
          rw [upd_ne e']
          exact a1
        have a3 := e2 _ _ a2
        rw [upd_ne e'] at hl
        rw [hl] at a3
        cases a3
  refine q l _ hHl ?_ ⟨⟨dx, upd_same⟩, [], ?_, .nil⟩
  · exact (((((b12.trans Bar2.updL).trans (Bar2.same e3)).trans Bar2.updP).trans (Bar2.same e4)).trans Bar2.updP)
  · rw [upd_ne hpl.symm]
    refine e4 _ _ ?_
    rw [upd_ne hpl.symm]
    exact h3l
end Ww

set_option Elab.async false
set_option linter.all false
set_option maxRecDepth 100000
set_option maxHeartbeats 4000000
/-! W13f: unrolled (printed from W13f.src by gen1.py). -/
namespace Ww
open PySem PySem.Spec PyProof.Rows L2
open C8 (Cal CalAt Met Mak pe_c pe_mk pe_mt pe_mt0)
variable {P : Program} {w : World} {K : PySem.W.Frag} {mg : Str → Option Value} {base : Heap}
section
variable {σ : L2.St} {H : Hp} {E : Ends} {C : Addr} {sp : Sp} {XE : XK} {t : TA} {ds : List D} {i : Nat}
/-- x = C(..) -/
theorem st_make (ha : AtA K t σ H ds) (q : ∀ vs H2 p dx, Same H H2 → RepL K H2 vs ds → H2 p = none → H2 dx = none → dx ≠ p →
    sp (.ref p :: vs) (upd (upd H2 dx (.own p)) p (.ins C dx [])) (fun v H3 => v = .non ∧ E.nx (σ.set i (some (.ref p))) H3) XE) : tAsg (tMake C sp [] XE t) (gName i) E σ H := by
  refine ha _ fun vs H1 e1 r1 p dx hp hd hne => ?_
  rw [List.append_nil]
  exact q vs H1 p dx e1 r1 hp hd hne
end
theorem same2 {H : Hp} {p dx : Addr} {o u : HO} (hp : H p = none) (hd : H dx = none) : Same H (upd (upd H dx o) p u) := fun a x e => by
  rw [upd_ne (ne_of_none e hp), upd_ne (ne_of_none e hd)]
  exact e
def RowsX (K : PySem.W.Frag) (H : Hp) (v : V) (xs : List RowP) : Prop := ∃ a vs, v = .ref a ∧ SqT K H a vs ∧ RepXs K H vs xs
def UnrSp (K : PySem.W.Frag) : Sp := fun vs H Q _ => ∃ (t : Tell) (w n : Int), RepL K H vs [Tell.dat t, .i w, .i n] ∧ (t.length ≤ 100000 ∧ ∀ p ∈ t, P2.ok p ∧ few2 p) ∧ (0 ≤ n ∧ n ≤ 4) ∧ Good (unroll w n t) ∧ (t.map (cnt2 w n)).sum ≤ 4000 ∧ ∀ v H', Same H H' → RowsX K H' v (unroll w n t) → Q v H'
theorem sc_unrolled : FnScope ["telling", "w", "n", "unroller", "part"] ["telling", "w", "n"] (defScope s_unrolled) := ⟨rfl, rfl, rfl, by decide +kernel, rfl, by decide +kernel, by decide +kernel⟩
theorem cal_unrolled (T : Tx w K mg) : Cal P w K mg base 12 "unrolled" (UnrSp K) [] := by
  obtain ⟨fd, F⟩ := T.defn (d := d_unrolled) 42 rfl
  refine ⟨_, fd, ["telling", "w", "n"], [], F.ok (k := 11) sc_unrolled (fun vs H Q E h => ?_) (fun cdv A outer s H vs Q E hr h => ⟨_, PSs.nox (pss_cons (ps_if (pt_not (pt_val (pe_c (cal_is_telling T) hr (by decide) (by rfl) (pa_cons (pv 0) pa_nil)))) (pss_one ps_never) pss_nil) (pss_cons (ps_set (i := 3) sc_unrolled.nd rfl (Or.inl rfl) (pe_mk (mak_Unroller T) hr (by decide) (by rfl) (pa_cons (pv 1) (pa_cons (pv 2) pa_nil)))) (pss_cons (ps_for PassesOwn.never rfl (pi_tup (pv 0)) (pg_name (i := 4) sc_unrolled.nd rfl (Or.inl rfl)) (pss_one (ps_expr (pe_mt (met_U_go T) hr (by decide) (pv 3) (pa_cons (pv 4) pa_nil))))) (pss_one (ps_ret (pe_callTy call_tuple_of (by rfl) (T.free 69) (by decide +kernel) (pa_cons (pe_fld (pv 3) rfl) pa_nil))))))), ?_⟩), T.glo 42, F.kp, F.bindsN (fun _ _ _ _ _ _ us hl => match us, hl with | [_, _, _], _ => rfl), .nil⟩
  · obtain ⟨t, w, n, rl, _⟩ := h
    exact rl.length
  obtain ⟨t, w, n, rl, ht, hn, hg, hk, q⟩ := h
  have F0 : FrD K H (L2.start ["telling", "w", "n", "unroller", "part"] vs) [some (.t (t.map P2.dat)), some (.i w), some (.i n), none, none] := FrD.start (N := ["telling", "w", "n", "unroller", "part"]) rl
  clear rl
  revert F0
  generalize L2.start ["telling", "w", "n", "unroller", "part"] vs = σ
  intro F0
  refine st_skip (att_not (b := true) (att_B (at_call (ata_of F0 (ea_cons (ev_var (i := 0) rfl) ea_nil)) ⟨⟨t, rfl, ht.1, ht.2⟩, rfl⟩))) fun H1 e1 => ?_
  refine st_make (ata_of (F0.same e1) (ea_cons (ev_var (i := 1) rfl) (ea_cons (ev_var (i := 2) rfl) ea_nil))) fun vs H2 p dx e2 r2 hp hd hne => ?_
  have evs : vs = [.int w, .int n] := RepL.vals_eq (xs := [.int w, .int n]) r2
  subst evs
  have s2 : Same H2 (upd (upd H2 dx (.own p)) p (.ins (UC K) dx [])) := same2 hp hd
  refine ⟨p, dx, w, n, rfl, upd_same, fun l H3 hl b3 u3 => ⟨rfl, ?_⟩⟩
  have hl2 : H2 l = none := by
    cases e : H2 l with
    | none => rfl
    | some o =>
      have a : some o = none := (s2 _ _ e).symm.trans hl
      cases a
  have s3 : Same H2 H3 := fun a o e => b3 a o (s2 a o e) (ne_of_none e hp) (ne_of_none e hl2)
  have F3 : FrD K H3 (σ.set 3 (some (.ref p))) [some (.t (t.map P2.dat)), some (.i w), some (.i n), some (.v (.ref p)), none] := ((((F0.same e1).same e2).same s3)).set (.v _) 3
  refine st_forT (ds := t.map P2.dat) (fun H4 k σ' H' => Bar2 p l H4 H' ∧ UAt K H' p w n l ((t.take k).flatMap (unroll2 w n)) ((t.take k).map (cnt2 w n)).sum ∧ FrD K H' σ' [some (.t (t.map P2.dat)), some (.i w), some (.i n), some (.v (.ref p)), none])
    (at_of F3 (ev_var (i := 0) rfl)) (fun H4 e4 => ⟨Bar2.refl _ _ _, u3.same e4, F3.same e4⟩) (fun H4 k σ' H' e4 z => (u3.same e4).stay z.1) ?_ ?_
  · rintro H4 k d v σ' H' e4 hd' rd ⟨b4, u4, F4⟩
    obtain ⟨dx4, ho4⟩ := u4.o
    rw [List.getElem?_map] at hd'
    obtain ⟨y, hy, rfl⟩ := Option.map_eq_some_iff.mp hd'
    have F5 : FrD K H' (σ'.set 4 (some v)) [some (.t (t.map P2.dat)), some (.i w), some (.i n), some (.v (.ref p)), some y.dat] := F4.set rd 4
    refine st_meth (ds := [y.dat]) (at_of F5 (ev_var (i := 3) rfl)) ho4 (look_u "go" (by decide)) (fun H2 e2 => ata_of (F5.same e2) (ea_cons (ev_var (i := 4) rfl) ea_nil)) fun vs H5 e5 rv => ?_
    have ek : ((t.take (k + 1)).map (cnt2 w n)).sum = ((t.take k).map (cnt2 w n)).sum + cnt2 w n y := by
      rw [take_succ_map _ hy, List.sum_append, List.sum_cons, List.sum_nil, Nat.add_zero]
    have hsl := sum_take_le (cnt2 w n) t (k + 1)
    refine ⟨p, w, n, l, _, _, vs, _, _, cnt2 w n y, rfl, rv, u4.same e5, ⟨y, rfl, (ht.2 y (List.mem_of_getElem? hy)).1, hn, rfl, rfl, ?_, by omega⟩, fun H6 b6 u6 => ?_⟩
    · rw [← take_succ_flat _ hy]
      exact hg.pre (take_flat_pre _ t (k + 1))
    · rw [← take_succ_flat _ hy, ← ek] at u6
      exact ⟨(b4.trans (Bar2.same e5)).trans b6, u6, (F5.mono ((Stay.same e5).trans ((u4.same e5).stay b6))).forget 4⟩
  · rintro H4 σ' H' e4 ⟨b4, u4, F4⟩
    rw [List.length_map, List.take_length] at u4
    obtain ⟨dx4, ho4⟩ := u4.o
    obtain ⟨vs, hl4, rv4⟩ := u4.l
    have sH : Same H H' := (e1.trans e2).trans (fun a o e => b4 a o (e4 _ _ (s3 a o e)) (ne_of_none e hp) (ne_of_none e hl2))
    refine at_fld (at_of F4 (ev_var (i := 3) rfl)) ho4 (T.cls 93) (T.noat 97) rfl _ fun y H5 e5 r5 => ?_
    cases r5.val
    exact ⟨l, vs, rfl, .inl ⟨SqL.of (e5 _ _ hl4), fun a ha => q _ _ (sH.trans (e5.trans (Same.new ha))) ⟨a, vs, rfl, .inl (.inl upd_same), rv4.same (e5.trans (Same.new ha))⟩⟩⟩
end Ww

set_option Elab.async false
set_option linter.all false
set_option maxRecDepth 100000
set_option maxHeartbeats 4000000
/-! W14a: the machine as an object; its steps as a plain function. -/
namespace Ww
open PySem PySem.Spec PyProof.Rows L2
/-! ### the mirror -/
structure MS where
  f : Str → Int → Int
  g : Int
def putf (f : Str → Int → Int) (l : Str) (q v : Int) : Str → Int → Int := fun l' q' => if l' = l ∧ q' = q then v else f l' q'
def MS.put (s : MS) (c : Cl Int) (v : Int) : MS := { s with f := putf s.f c.l.str c.p v }
def MS.flag (s : MS) (g : Int) : MS := { s with g := g }
def MS.at (s : MS) (c : Cl Int) : Int := s.f c.l.str c.p
def MS.split (s : MS) (W : Int) (c : Cl Int) (t : Int) : MS := (s.put c (t % W)).flag (t / W)
def rowStep (W : Int) (s : MS) : RowP → MS
  | .mark d => s.flag d
  | .ask x => s.flag (if s.at x ≠ 0 then 1 else 0)
  | .set to d => s.put to d
  | .one .move to x => s.put to (s.at x)
  | .one .twice to x => s.split W to (2 * s.at x + s.g)
  | .one .half to x => (s.put to (s.at x / 2 + s.g * (W / 2))).flag (s.at x % 2)
  | .two .sum to x y => s.split W to (s.at x + s.at y + s.g)
  | .two .less to x y => (s.put to ((s.at x - s.at y - s.g) % W)).flag (if s.at x - s.at y - s.g < 0 then 1 else 0)
  | .two .both to x y => s.put to (Builtin.bitAnd (s.at x) (s.at y))
  | .two .any to x y => s.put to (Builtin.bitOr (s.at x) (s.at y))
  | .two .odd to x y => s.put to (Builtin.bitXor (s.at x) (s.at y))
def runRows (W : Int) (s : MS) (rs : List RowP) : MS := rs.foldl (rowStep W) s
/-! ### the object -/
abbrev MC (K : PySem.W.Frag) : Addr := He.ga K "Machine"
def mflds (W : Int) (h : Addr) (g : Int) : List (Str × V) := [("wide", .int W), ("held", .ref h), ("flag", .int g)]
structure MAt (K : PySem.W.Frag) (H : Hp) (p h : Addr) (W : Int) (s : MS) (m : Nat) : Prop where
  o : ∃ dx, H p = some (.ins (MC K) dx (mflds W h s.g))
  d : ∃ kvs, H h = some (.dT kvs) ∧ kvs.length ≤ m ∧ ∀ l q, (valV kvs [.inr l, .inl q]).getD (.int 0) = .int (s.f l q)
  w : 0 < W ∧ W < 2 ^ 40
section
variable {K : PySem.W.Frag} {H H2 H' : Hp} {p h b dx : Addr} {W : Int} {s : MS} {m : Nat} {l : Str} {q v g : Int} {fs : List (Str × V)} {kvs : List (List Key × V)}
theorem MAt.ne (u : MAt K H p h W s m) : p ≠ h := fun e => by
  obtain ⟨⟨dx, ho⟩, ⟨kvs, hl, _⟩, _⟩ := u
  rw [e, hl] at ho
  cases ho
theorem MAt.same (u : MAt K H p h W s m) (e : Same H H2) : MAt K H2 p h W s m := by
  obtain ⟨⟨dx, ho⟩, ⟨kvs, hl, r⟩, w⟩ := u
  exact ⟨⟨dx, e _ _ ho⟩, ⟨kvs, e _ _ hl, r⟩, w⟩
theorem MAt.up {m' : Nat} (u : MAt K H p h W s m) (e : m ≤ m') : MAt K H p h W s m' := by
  obtain ⟨o, ⟨kvs, hl, r, t⟩, w⟩ := u
  exact ⟨o, ⟨kvs, hl, Nat.le_trans r e, t⟩, w⟩
theorem MAt.stay (u : MAt K H p h W s m) (b : Bar2 p h H H') : Stay H H' := by
  obtain ⟨⟨dx, ho⟩, ⟨kvs, hl, r⟩, w⟩ := u
  exact b.stay ho rfl hl rfl
theorem putK_len {κ : Type} [DecidableEq κ] {xs : List (κ × V)} {k : κ} {v : V} : (putK xs k v).length ≤ xs.length + 1 := by
  unfold putK
  split
  · rw [List.length_map]; omega
  · rw [List.length_append]; exact Nat.le_refl _
theorem MAt.put (u : MAt K H p h W s m) (hh : H h = some (.dT kvs)) : MAt K (upd H h (.dT (putK kvs [.inr l, .inl q] (.int v)))) p h W { s with f := putf s.f l q v } (m + 1) := by
  have hn := u.ne
  obtain ⟨⟨dx, ho⟩, ⟨kvs', hl, r, t⟩, w⟩ := u
  rw [hh] at hl
  cases hl
  refine ⟨⟨dx, ?_⟩, ⟨_, upd_same, ?_, fun l' q' => ?_⟩, w⟩
  · rw [upd_ne hn]
    exact ho
  · have := putK_len (xs := kvs) (k := [.inr l, .inl q]) (v := .int v)
    omega
  · rw [valV_put]
    show _ = V.int (if l' = l ∧ q' = q then v else s.f l' q')
    by_cases e : l' = l ∧ q' = q
    · obtain ⟨rfl, rfl⟩ := e
      rw [if_pos rfl, if_pos ⟨rfl, rfl⟩]
      rfl
    · rw [if_neg (c := ([Sum.inr l', Sum.inl q'] : List Key) = [Sum.inr l, Sum.inl q]) (fun z => e ?_), if_neg e]
      · exact t l' q'
      · simp only [List.cons.injEq, Sum.inr.injEq, Sum.inl.injEq, and_true] at z
        exact z
theorem MAt.fld (u : MAt K H p h W s m) (hf : fs = mflds W h g) : MAt K (upd H p (.ins (MC K) dx fs)) p h W (s.flag g) m := by
  subst hf
  have hn := u.ne
  obtain ⟨⟨dx', ho⟩, ⟨kvs', hl, r, t⟩, w⟩ := u
  refine ⟨⟨_, upd_same⟩, ⟨kvs', ?_, r, t⟩, w⟩
  rw [upd_ne hn.symm]
  exact hl
theorem look_m {W : Int} {h : Addr} {g : Int} (m : Str) (e : (m == "wide") = false ∧ (m == "held") = false ∧ (m == "flag") = false) : (mflds W h g).lookup m = none := by
  obtain ⟨h1, h2, h3⟩ := e
  simp only [mflds, List.lookup, h1, h2, h3]
/-- b: a tracked key -/
def KeyAt (H : Hp) (b : Addr) (l : Str) (q : Int) : Prop := H b = some (.tup [.str l, .int q])
theorem KeyAt.same (k : KeyAt H b l q) (e : Same H H2) : KeyAt H2 b l q := e _ _ k
theorem KeyAt.key (k : KeyAt H b l q) : H b = some (.tup (([.inr l, .inl q] : List Key).map kV)) := k
end
/-! ### rules at one state -/
section
variable {P : Program} {w : World} {K : PySem.W.Frag} {mg : Str → Option Value} {σ : L2.St} {H : Hp} {p h b : Addr} {W : Int} {s : MS} {m : Nat} {l : Str} {q v g : Int} {E : Ends} {to tc tv td : TE} {XE : XK} {i : Nat}
def hcls (T : Tx w K mg) : Cls K (MC K) := T.cls 79
theorem at_wide (T : Tx w K mg) (ho : At K to σ H (.v (.ref p))) (u : MAt K H p h W s m) : At K (tFld K to "wide") σ H (.i W) := by
  obtain ⟨dx, e⟩ := u.o
  exact at_fld ho e (T.cls 79) (T.noat 81) rfl
theorem at_held (T : Tx w K mg) (ho : At K to σ H (.v (.ref p))) (u : MAt K H p h W s m) : At K (tFld K to "held") σ H (.v (.ref h)) := by
  obtain ⟨dx, e⟩ := u.o
  exact at_fld ho e (T.cls 79) (T.noat 82) rfl
theorem at_flag (T : Tx w K mg) (ho : At K to σ H (.v (.ref p))) (u : MAt K H p h W s m) : At K (tFld K to "flag") σ H (.i s.g) := by
  obtain ⟨dx, e⟩ := u.o
  exact at_fld ho e (T.cls 79) (T.noat 83) rfl
/-- self.held.get(key, 0) -/
theorem at_get (T : Tx w K mg) (ho : At K to σ H (.v (.ref p))) (hc : ∀ (H2 : Hp) (Q : VK), Same H H2 → (∀ b H3, Same H2 H3 → KeyAt H3 b l q → Q (.ref b) H3) → tc σ H2 Q) (u : MAt K H p h W s m) : At K (tDGet2 (tFld K to "held") tc (tC (.int 0))) σ H (.i (s.f l q)) := fun Q k => by
  refine at_held T ho u _ fun y H1 e1 r1 => ?_
  cases r1.val
  obtain ⟨kvs, hh, hk, hv⟩ := u.d
  refine ⟨h, rfl, .inr ⟨kvs, .inl (e1 _ _ hh)⟩, hc H1 _ e1 fun b H3 e3 kb => ?_⟩
  refine ⟨_, DGet.t (e3 _ _ (e1 _ _ hh)) kb.key, ?_⟩
  rw [hv l q]
  exact k _ H3 (e1.trans e3) (.v _)
/-- self.held[key] = value -/
theorem st_put (T : Tx w K mg) (hv : At K tv σ H (.i v)) (ho : ∀ H2, Same H H2 → At K to σ H2 (.v (.ref p))) (hc : ∀ (H2 : Hp) (Q : VK), Same H H2 → (∀ b H3, Same H2 H3 → KeyAt H3 b l q → Q (.ref b) H3) → tc σ H2 Q) (u : MAt K H p h W s m) (hm : m < 1000000)
    (k : ∀ H2, MAt K H2 p h W { s with f := putf s.f l q v } (m + 1) → Bar2 p h H H2 → E.nx σ H2) : sDPut (tFld K to "held") tc tv E σ H := by
  refine hv _ fun x H1 e1 r1 => ?_
  cases r1.val
  refine at_held T (ho H1 e1) (u.same e1) _ fun y H2 e2 r2 => ?_
  cases r2.val
  refine hc H2 _ (e1.trans e2) fun b H3 e3 kb => ?_
  have u3 := u.same ((e1.trans e2).trans e3)
  obtain ⟨kvs, hh, hk, hg⟩ := u3.d
  refine ⟨h, _, rfl, DPut.t hh kb.key (Nat.lt_of_le_of_lt hk (Nat.lt_of_lt_of_le hm (by decide))), k _ (u3.put hh) ((Bar2.same ((e1.trans e2).trans e3)).trans Bar2.updL)⟩
/-- self.flag = value -/
theorem st_flag (T : Tx w K mg) (hv : At K tv σ H (.i v)) (ho : ∀ H2, Same H H2 → At K to σ H2 (.v (.ref p))) (u : MAt K H p h W s m)
    (k : ∀ H2, MAt K H2 p h W (s.flag v) m → Bar2 p h H H2 → E.nx σ H2) : sFld K to tv "flag" E σ H := by
  obtain ⟨dx, e⟩ := u.o
  exact st_fld hv ho e (T.cls 79) (T.noat 83) (by show 3 < 1000; decide) fun H2 e2 => k _ ((u.same e2).fld rfl) ((Bar2.same e2).trans Bar2.updP)
/-! promises -/
def TakeSp (K : PySem.W.Frag) : Sp := fun vs H Q _ => ∃ p h W s m b l q, vs = [.ref p, .ref b] ∧ MAt K H p h W s m ∧ KeyAt H b l q ∧ ∀ H', Same H H' → Q (.int (s.f l q)) H'
def ActSp (K : PySem.W.Frag) (A : Hp → List V → Int → MS → MS → Prop) : Sp := fun vs H Q _ => ∃ p h W s m us s', vs = .ref p :: us ∧ MAt K H p h W s m ∧ m < 100000 ∧ A H us W s s' ∧ ∀ H', Bar2 p h H H' → MAt K H' p h W s' (m + 1) → Q .non H'
theorem act_len {A : Hp → List V → Int → MS → MS → Prop} {n : Nat} (hA : ∀ H us W s s', A H us W s s' → us.length + 1 = n) {vs : List V} {H : Hp} {Q : VK} {E : XK} (hs : ActSp K A vs H Q E) : vs.length = n := by
  obtain ⟨p, h, W, s, m, us, s', rfl, u, hm, a, k⟩ := hs
  exact hA _ _ _ _ _ a
theorem at_take (ho : At K to σ H (.v (.ref p))) (hc : ∀ H2, Same H H2 → At K tc σ H2 (.v (.ref b))) (kb : KeyAt H b l q) (u : MAt K H p h W s m) : At K (tMeth (MC K) "take" (TakeSp K) [] XE to (tCons tc tNil)) σ H (.i (s.f l q)) := fun Q k => by
  obtain ⟨dx, e⟩ := u.o
  refine ho _ fun x H1 e1 r1 => ?_
  cases r1.val
  refine ⟨p, dx, _, rfl, e1 _ _ e, look_m "take" (by decide), hc H1 e1 _ fun y H2 e2 r2 => ?_⟩
  cases r2.val
  exact ⟨p, h, W, s, m, b, l, q, rfl, u.same (e1.trans e2), kb.same (e1.trans e2), fun H' e' => k _ H' ((e1.trans e2).trans e') (.v _)⟩
/-- self.act(..) -/
theorem st_act {A : Hp → List V → Int → MS → MS → Prop} {t : TA} {ds : List D} {s' : MS} {name : Str} (hn : (name == "wide") = false ∧ (name == "held") = false ∧ (name == "flag") = false) (ho : At K to σ H (.v (.ref p))) (u : MAt K H p h W s m) (hm : m < 100000)
    (ht : ∀ H2, Same H H2 → AtA K t σ H2 ds) (hA : ∀ vs H2, Same H H2 → RepL K H2 vs ds → A H2 vs W s s') (k : ∀ H2, MAt K H2 p h W s' (m + 1) → Bar2 p h H H2 → E.nx σ H2) : tDrop (tMeth (MC K) name (ActSp K A) [] XE to t) E σ H := by
  obtain ⟨dx, e⟩ := u.o
  exact st_meth ho e (look_m name hn) ht fun vs H2 e2 rv => ⟨p, h, W, s, m, vs, s', rfl, u.same e2, hm, hA vs H2 e2 rv, fun H' b' u' => k H' u' ((Bar2.same e2).trans b')⟩
/-- row[k] -/
theorem at_arg {a : Addr} {x : V} {vs : List V} {n : Nat} (hσ : σ[i]? = some (some (.ref a))) (hs : SqT K H a vs) (hx : vs[n]? = some x) : At K (tOp (rIxT K) (tVar i) (tC (.int n))) σ H (.v x) := fun Q k =>
  ⟨_, hσ, a, vs, n, x, rfl, rfl, hs, atI_nat hx, k x H (Same.refl H) (.v x)⟩
end
end Ww

set_option Elab.async false
set_option linter.all false
set_option maxRecDepth 100000
set_option maxHeartbeats 4000000
/-! W14b: the machine's methods (printed from W14b.src by gen1.py). -/
namespace Ww
open PySem PySem.Spec PyProof.Rows L2
open C8 (Cal CalAt Met Mak pe_c pe_mk pe_mt pe_mt0)
variable {P : Program} {w : World} {K : PySem.W.Frag} {mg : Str → Option Value} {base : Heap}
section
variable {σ : L2.St} {δ : DS} {H : Hp} {a b : Addr} {vs : List V} {l : Str} {q : Int} {x : V} {d : D} {t u : L2.TS} {E : Ends}
theorem at_addI {ta tb : TE} {n m : Int} (ha : At K ta σ H (.i n)) (hb : ∀ H2, Same H H2 → At K tb σ H2 (.i m)) : At K (tOp (rI0 fun i j => .int (i + j)) ta tb) σ H (.i (n + m)) := at_int0 (g := fun i j => .int (i + j)) ha hb
theorem at_subI {ta tb : TE} {n m : Int} (ha : At K ta σ H (.i n)) (hb : ∀ H2, Same H H2 → At K tb σ H2 (.i m)) : At K (tOp (rI0 fun i j => .int (i - j)) ta tb) σ H (.i (n - m)) := at_int0 (g := fun i j => .int (i - j)) ha hb
theorem at_mulI {ta tb : TE} {n m : Int} (ha : At K ta σ H (.i n)) (hb : ∀ H2, Same H H2 → At K tb σ H2 (.i m)) (hc : CMul n m) : At K (tOp (rI CMul fun i j => .int (i * j)) ta tb) σ H (.i (n * m)) := at_int (g := fun i j => .int (i * j)) ha hb hc
theorem at_divI {ta tb : TE} {n m : Int} (ha : At K ta σ H (.i n)) (hb : ∀ H2, Same H H2 → At K tb σ H2 (.i m)) (hc : CDivW n m) : At K (tOp (rI CDivW fun i j => .int (i / j)) ta tb) σ H (.i (n / m)) := at_int (g := fun i j => .int (i / j)) ha hb hc
theorem at_modI {ta tb : TE} {n m : Int} (ha : At K ta σ H (.i n)) (hb : ∀ H2, Same H H2 → At K tb σ H2 (.i m)) (hc : 0 < m) : At K (tOp (rI (fun _ j => 0 < j) fun i j => .int (i % j)) ta tb) σ H (.i (n % m)) := at_int (g := fun i j => .int (i % j)) ha hb hc
theorem div2 {n : Int} : CDivW n 2 := wide_div (j := 2) (by decide) (b := 2) (by decide) (by decide) (by decide)
theorem vat (F : FrD K H σ δ) (i : Nat) (h : δ[i]? = some (some d)) : At K (tVar i) σ H d := at_of F (ev_var h)
theorem arg_at (F : FrD K H σ δ) (i n : Nat) (hδ : δ[i]? = some (some (.v (.ref a)))) (hs : SqT K H a vs) (hx : vs[n]? = some x) : At K (tOp (rIxT K) (tVar i) (tC (.int n))) σ H (.v x) := by
  obtain ⟨v, h1, h2⟩ := F.get hδ
  cases h2.val
  exact at_arg h1 hs hx
theorem key_arg (F : FrD K H σ δ) (i n : Nat) (hδ : δ[i]? = some (some (.v (.ref a)))) (hs : SqT K H a vs) (hx : vs[n]? = some (.ref b)) (kb : KeyAt H b l q) :
    ∀ (H2 : Hp) (Q : VK), Same H H2 → (∀ b H3, Same H2 H3 → KeyAt H3 b l q → Q (.ref b) H3) → tOp (rIxT K) (tVar i) (tC (.int n)) σ H2 Q := fun H2 Q e k => arg_at (F.same e) i n hδ ((Stay.same e).seqT hs) hx Q fun y H3 e3 r3 => by
  cases r3.val
  exact k b H3 e3 ((kb.same e).same e3)
theorem key_var (F : FrD K H σ δ) (i : Nat) (hδ : δ[i]? = some (some (.v (.ref b)))) (kb : KeyAt H b l q) :
    ∀ (H2 : Hp) (Q : VK), Same H H2 → (∀ b H3, Same H2 H3 → KeyAt H3 b l q → Q (.ref b) H3) → tVar i σ H2 Q := fun H2 Q e k => vat (F.same e) i hδ Q fun y H3 e3 r3 => by
  cases r3.val
  exact k b H3 e3 ((kb.same e).same e3)
/-- the name is another one -/
theorem st_nameF {z y : Str} {i : Nat} (F : FrD K H σ δ) (hδ : δ[i]? = some (some (.s z))) (h : decide (V.str z = .str y) = false) (k : u E σ H) : tIfS (tTest (tOp rEq (tVar i) (tC (.str y)))) t u E σ H := by
  obtain ⟨v, h1, h2⟩ := F.get hδ
  cases h2.val
  exact ⟨_, h1, rfl, _, rfl, by rw [h]; exact iteF k⟩
theorem st_nameT {z y : Str} {i : Nat} (F : FrD K H σ δ) (hδ : δ[i]? = some (some (.s z))) (h : decide (V.str z = .str y) = true) (k : t E σ H) : tIfS (tTest (tOp rEq (tVar i) (tC (.str y)))) t u E σ H := by
  obtain ⟨v, h1, h2⟩ := F.get hδ
  cases h2.val
  exact ⟨_, h1, rfl, _, rfl, by rw [h]; exact iteT k⟩
end
theorem sc_M_take : FnScope ["self", "cell"] ["self", "cell"] (defScope s_M_take) := ⟨rfl, rfl, rfl, by decide +kernel, rfl, by decide +kernel, by decide +kernel⟩
theorem met_M_take (T : Tx w K mg) : Met P w K mg base 1 (MC K) "take" (TakeSp K) [] := by
  obtain ⟨fd, F⟩ := T.defn (d := d_M_take) 61 rfl
  refine ⟨_, fd, ["self", "cell"], [], T.cls 79, T.meth 87, F.ok (k := 0) sc_M_take (fun vs H Q E h => ?_) (fun cdv A outer s H vs Q E hr h => ⟨_, PSs.nox (pss_one (ps_ret (pe_dget2 (hu_of hr) (pe_fld (pv 0) rfl) (pv 1) pe_int ⟨rfl, rfl, rfl, rfl⟩))), ?_⟩), F.bindsN (fun _ _ _ _ _ _ us hl => match us, hl with | [_, _], _ => rfl), .nil⟩
  · obtain ⟨p, h, W, s, m, b, l, q, rfl, _⟩ := h
    rfl
  obtain ⟨p, h, W, s, m, b, l, q, rfl, u, kb, k⟩ := h
  have F0 : FrD K H (L2.start ["self", "cell"] [.ref p, .ref b]) [some (.v (.ref p)), some (.v (.ref b))] := FrD.start (N := ["self", "cell"]) (RepL.vals _)
  refine at_get T (vat F0 0 rfl) (key_var F0 1 rfl kb) u _ fun v H2 e2 r2 => ?_
  cases r2.val
  exact k H2 e2
def splitA (H : Hp) (us : List V) (W : Int) (s s' : MS) : Prop := ∃ b c t, us = [.ref b, .int t] ∧ KeyAt H b (Cl.l c).str c.p ∧ s' = s.split W c t
theorem sc_M_put_split : FnScope ["self", "cell", "total"] ["self", "cell", "total"] (defScope s_M_put_split) := ⟨rfl, rfl, rfl, by decide +kernel, rfl, by decide +kernel, by decide +kernel⟩
theorem met_M_put_split (T : Tx w K mg) : Met P w K mg base 1 (MC K) "put_split" (ActSp K splitA) [] := by
  obtain ⟨fd, F⟩ := T.defn (d := d_M_put_split) 62 rfl
  refine ⟨_, fd, ["self", "cell", "total"], [], T.cls 79, T.meth 88, F.ok (k := 0) sc_M_put_split (fun vs H Q E h => act_len (n := 3) ?_ h) (fun cdv A outer s H vs Q E hr h => ⟨_, PSs.nox (pss_cons (ps_dput (hu_of hr) (pe_fld (pv 0) rfl) (pv 1) (pe_op op_mod (pv 2) (pe_fld (pv 0) rfl)) rfl) (pss_one (ps_fld (pv 0) (pe_op op_fdivW (pv 2) (pe_fld (pv 0) rfl)) rfl))), ?_⟩), F.bindsN (fun _ _ _ _ _ _ us hl => match us, hl with | [_, _, _], _ => rfl), .nil⟩
  · rintro H us W s s' ⟨b, c, t, rfl, _⟩
    rfl
  obtain ⟨p, h, W, s, m, us, s', rfl, u, hm, ⟨b, c, t, rfl, kb, rfl⟩, q⟩ := h
  have w1 := u.w.1
  have w2 := u.w.2
  have F0 : FrD K H (L2.start ["self", "cell", "total"] [.ref p, .ref b, .int t]) [some (.v (.ref p)), some (.v (.ref b)), some (.i t)] := FrD.start (N := ["self", "cell", "total"]) (RepL.vals _)
  refine st_put T (v := t % W) (at_modI (vat F0 2 rfl) (fun H2 e => at_wide T (vat (F0.same e) 0 rfl) (u.same e)) w1) (fun H2 e => vat (F0.same e) 0 rfl) (key_var F0 1 rfl kb) u (by omega) fun H2 u2 b2 => ?_
  have F2 := F0.mono (u.stay b2)
  refine st_flag T (v := t / W) (at_divI (vat F2 2 rfl) (fun H2 e => at_wide T (vat (F2.same e) 0 rfl) (u2.same e)) (wide_div w1 (b := 40) (by omega) (by omega) (by omega))) (fun H3 e => vat (F2.same e) 0 rfl) u2 fun H3 u3 b3 => ?_
  exact q H3 (b2.trans b3) u3
def Row.simple {α : Type} : Row α → Prop
  | .set _ _ => True
  | .one _ _ _ => True
  | _ => False
def Row.double {α : Type} : Row α → Prop
  | .two _ _ _ _ => True
  | _ => False
def simpleA (K : PySem.W.Frag) (H : Hp) (us : List V) (W : Int) (s s' : MS) : Prop := ∃ v x, us = [v] ∧ RepX K H v x ∧ Row.simple x ∧ s' = rowStep W s x
def doubleA (K : PySem.W.Frag) (H : Hp) (us : List V) (W : Int) (s s' : MS) : Prop := ∃ v x, us = [v] ∧ RepX K H v x ∧ Row.double x ∧ s' = rowStep W s x
def rowA (K : PySem.W.Frag) (H : Hp) (us : List V) (W : Int) (s s' : MS) : Prop := ∃ v x, us = [v] ∧ RepX K H v x ∧ s' = rowStep W s x
theorem st_str {i a : Nat} {t : L2.TS} : True := trivial
theorem ax1 {H : Hp} {vs : List V} {c : Cl Int} (h : ArgsX H vs [.inl c]) : ∃ b, vs = [.ref b] ∧ KeyAt H b c.l.str c.p := by
  cases h with
  | cons h1 r =>
    cases r
    obtain ⟨b, rfl, k⟩ := h1
    exact ⟨b, rfl, k⟩
theorem axd {H : Hp} {vs : List V} {d : Int} (h : ArgsX H vs [.inr d]) : vs = [.int d] := by
  cases h with
  | cons h1 r =>
    cases r
    cases h1
    rfl
theorem ax1d {H : Hp} {vs : List V} {c : Cl Int} {d : Int} (h : ArgsX H vs [.inl c, .inr d]) : ∃ b, vs = [.ref b, .int d] ∧ KeyAt H b c.l.str c.p := by
  cases h with
  | cons h1 r =>
    obtain ⟨b, rfl, k⟩ := h1
    rw [axd r]
    exact ⟨b, rfl, k⟩
theorem ax2 {H : Hp} {vs : List V} {c e : Cl Int} (h : ArgsX H vs [.inl c, .inl e]) : ∃ b f, vs = [.ref b, .ref f] ∧ KeyAt H b c.l.str c.p ∧ KeyAt H f e.l.str e.p := by
  cases h with
  | cons h1 r =>
    obtain ⟨b, rfl, k⟩ := h1
    obtain ⟨f, rfl, k2⟩ := ax1 r
    exact ⟨b, f, rfl, k, k2⟩
theorem ax3 {H : Hp} {vs : List V} {c e g : Cl Int} (h : ArgsX H vs [.inl c, .inl e, .inl g]) : ∃ b f x, vs = [.ref b, .ref f, .ref x] ∧ KeyAt H b c.l.str c.p ∧ KeyAt H f e.l.str e.p ∧ KeyAt H x g.l.str g.p := by
  cases h with
  | cons h1 r =>
    obtain ⟨b, rfl, k⟩ := h1
    obtain ⟨f, x, rfl, k2, k3⟩ := ax2 r
    exact ⟨b, f, x, rfl, k, k2, k3⟩

theorem sc_M_do_simple : FnScope ["self", "row", "name", "word"] ["self", "row"] (defScope s_M_do_simple) := ⟨rfl, rfl, rfl, by decide +kernel, rfl, by decide +kernel, by decide +kernel⟩
theorem met_M_do_simple (T : Tx w K mg) : Met P w K mg base 2 (MC K) "do_simple" (ActSp K (simpleA K)) [] := by
  obtain ⟨fd, F⟩ := T.defn (d := d_M_do_simple) 63 rfl
  refine ⟨_, fd, ["self", "row"], [], T.cls 79, T.meth 89, F.ok (k := 1) sc_M_do_simple (fun vs H Q E h => act_len (n := 2) ?_ h) (fun cdv A outer s H vs Q E hr h => ⟨_, PSs.nox (pss_cons (ps_set (i := 2) sc_M_do_simple.nd rfl (Or.inl rfl) (pe_ix ix_tup (pv 1) pe_int (fun _ _ => rfl))) (pss_one (ps_if (pt_cmpR op_eq (pv 2) pe_str (nomark _)) (pss_one (ps_dput (hu_of hr) (pe_fld (pv 0) rfl) (pe_ix ix_tup (pv 1) pe_int (fun _ _ => rfl)) (pe_ix ix_tup (pv 1) pe_int (fun _ _ => rfl)) rfl)) (pss_one (ps_if (pt_cmpR op_eq (pv 2) pe_str (nomark _)) (pss_one (ps_dput (hu_of hr) (pe_fld (pv 0) rfl) (pe_ix ix_tup (pv 1) pe_int (fun _ _ => rfl)) (pe_mt (met_M_take T) hr (by decide) (pv 0) (pa_cons (pe_ix ix_tup (pv 1) pe_int (fun _ _ => rfl)) pa_nil)) rfl)) (pss_one (ps_if (pt_cmpR op_eq (pv 2) pe_str (nomark _)) (pss_one (ps_dput (hu_of hr) (pe_fld (pv 0) rfl) (pe_ix ix_tup (pv 1) pe_int (fun _ _ => rfl)) (pe_op op_sub (pe_op op_sub (pe_fld (pv 0) rfl) pe_int) (pe_mt (met_M_take T) hr (by decide) (pv 0) (pa_cons (pe_ix ix_tup (pv 1) pe_int (fun _ _ => rfl)) pa_nil))) rfl)) (pss_one (ps_if (pt_cmpR op_eq (pv 2) pe_str (nomark _)) (pss_one (ps_expr (pe_mt (met_M_put_split T) hr (by decide) (pv 0) (pa_cons (pe_ix ix_tup (pv 1) pe_int (fun _ _ => rfl)) (pa_cons (pe_op op_add (pe_op op_mul pe_int (pe_mt (met_M_take T) hr (by decide) (pv 0) (pa_cons (pe_ix ix_tup (pv 1) pe_int (fun _ _ => rfl)) pa_nil))) (pe_fld (pv 0) rfl)) pa_nil))))) (pss_cons (ps_set (i := 3) sc_M_do_simple.nd rfl (Or.inl rfl) (pe_mt (met_M_take T) hr (by decide) (pv 0) (pa_cons (pe_ix ix_tup (pv 1) pe_int (fun _ _ => rfl)) pa_nil))) (pss_cons (ps_dput (hu_of hr) (pe_fld (pv 0) rfl) (pe_ix ix_tup (pv 1) pe_int (fun _ _ => rfl)) (pe_op op_add (pe_op op_fdivW (pv 3) pe_int) (pe_op op_mul (pe_fld (pv 0) rfl) (pe_op op_fdivW (pe_fld (pv 0) rfl) pe_int))) rfl) (pss_one (ps_fld (pv 0) (pe_op op_mod (pv 3) pe_int) rfl))))))))))))), ?_⟩), F.bindsN (fun _ _ _ _ _ _ us hl => match us, hl with | [_, _], _ => rfl), .nil⟩
  · rintro H us W s s' ⟨v, x, rfl, _⟩
    rfl
  obtain ⟨p, h, W, s, m, us, s', rfl, u, hm, ⟨v, x, rfl, ⟨a, avs, rfl, sq, ax⟩, hx, rfl⟩, q⟩ := h
  have w1 := u.w.1
  have w2 := u.w.2
  have F0 : FrD K H (L2.start ["self", "row", "name", "word"] [.ref p, .ref a]) [some (.v (.ref p)), some (.v (.ref a)), none, none] := FrD.start (N := ["self", "row", "name", "word"]) (RepL.vals _)
  refine st_set (arg_at F0 1 0 rfl sq rfl) fun v1 H1 e1 r1 => ?_
  have F1 := (F0.same e1).set r1 2
  replace sq := (Stay.same e1).seqT sq
  replace ax := ax.mono (Stay.same e1)
  replace u := u.same e1
  replace q := fun H' b u' => q H' ((Bar2.same e1).trans b) u'
  clear F0 r1
  cases x with
  | mark d => exact hx.elim
  | ask y => exact hx.elim
  | two o to y z => exact hx.elim
  | set to d =>
    obtain ⟨b, rfl, kb⟩ := ax1d ax
    refine st_nameT (z := "set") F1 rfl (by decide) ?_
    exact st_put T (v := d) (arg_at F1 1 2 rfl sq rfl) (fun _ e => vat (F1.same e) 0 rfl) (key_arg F1 1 1 rfl sq rfl kb) u (by omega) fun H3 u3 b3 => q H3 b3 u3
  | one o to y =>
    obtain ⟨b, f, rfl, kb, kf⟩ := ax2 ax
    cases o with
    | move =>
      refine st_nameF (z := "move") F1 rfl (by decide) ?_
      refine st_nameT (z := "move") F1 rfl (by decide) ?_
      exact st_put T (v := s.at y) (at_take (vat F1 0 rfl) (fun H2 e => arg_at (F1.same e) 1 2 rfl ((Stay.same e).seqT sq) rfl) kf u) (fun _ e => vat (F1.same e) 0 rfl) (key_arg F1 1 1 rfl sq rfl kb) u (by omega) fun H3 u3 b3 => q H3 b3 u3
    | twice =>
      refine st_nameF (z := "twice") F1 rfl (by decide) ?_
      refine st_nameF (z := "twice") F1 rfl (by decide) ?_
      refine st_nameF (z := "twice") F1 rfl (by decide) ?_
      refine st_nameT (z := "twice") F1 rfl (by decide) ?_
      refine st_act (s := s) (ds := [.v (.ref b), .i (2 * s.at y + s.g)]) (by decide) (vat F1 0 rfl) u hm (fun H6 e6 => ata_cons (arg_at (F1.same e6) 1 1 rfl ((Stay.same e6).seqT sq) rfl) fun H7 e7 => ata_cons (at_addI (at_mulI at_c (fun H8 e8 => at_take (vat (((F1.same e6).same e7).same e8) 0 rfl) (fun H9 e9 => arg_at ((((F1.same e6).same e7).same e8).same e9) 1 2 rfl ((Stay.same (((e6.trans e7).trans e8).trans e9)).seqT sq) rfl) (kf.same ((e6.trans e7).trans e8)) (u.same ((e6.trans e7).trans e8))) (.inl ⟨by decide, by decide⟩)) fun H8 e8 => at_flag T (vat (((F1.same e6).same e7).same e8) 0 rfl) (u.same ((e6.trans e7).trans e8))) fun _ _ => ata_nil)
        (fun vs H6 e6 rl => ⟨b, to, 2 * s.at y + s.g, RepL.vals_eq (xs := [.ref b, .int (2 * s.at y + s.g)]) rl, kb.same e6, rfl⟩) fun H6 u6 b6 => q H6 b6 u6
    | half =>
      refine st_nameF (z := "half") F1 rfl (by decide) ?_
      refine st_nameF (z := "half") F1 rfl (by decide) ?_
      refine st_nameF (z := "half") F1 rfl (by decide) ?_
      refine st_nameF (z := "half") F1 rfl (by decide) ?_
      refine st_set (at_take (vat F1 0 rfl) (fun H6 e6 => arg_at (F1.same e6) 1 2 rfl ((Stay.same e6).seqT sq) rfl) kf u) fun v2 H6 e6 r6 => ?_
      have F6 := (F1.same e6).set r6 3
      replace sq := (Stay.same e6).seqT sq
      replace kb := kb.same e6
      replace u := u.same e6
      refine st_put T (v := s.at y / 2 + s.g * (W / 2)) (at_addI (at_divI (vat F6 3 rfl) (fun _ _ => at_c) div2) fun H7 e7 => at_mulI (at_flag T (vat (F6.same e7) 0 rfl) (u.same e7)) (fun H8 e8 => at_divI (at_wide T (vat ((F6.same e7).same e8) 0 rfl) (u.same (e7.trans e8))) (fun _ _ => at_c) div2) (Or.inr ⟨by omega, by omega⟩)) (fun _ e => vat (F6.same e) 0 rfl) (key_arg F6 1 1 rfl sq rfl kb) u (by omega) fun H7 u7 b7 => ?_
      have F7 := F6.mono (u.stay b7)
      refine st_flag T (v := s.at y % 2) (at_modI (vat F7 3 rfl) (fun _ _ => at_c) (by decide)) (fun _ e => vat (F7.same e) 0 rfl) u7 fun H8 u8 b8 => ?_
      exact q H8 (((Bar2.same e6).trans b7).trans b8) u8
end Ww

set_option Elab.async false
set_option linter.all false
set_option maxRecDepth 100000
set_option maxHeartbeats 4000000
/-! W14c: the machine's methods, second part (printed from W14c.src by gen1.py). -/
namespace Ww
open PySem PySem.Spec PyProof.Rows L2
open C8 (Cal CalAt Met Mak pe_c pe_mk pe_mt pe_mt0)
variable {P : Program} {w : World} {K : PySem.W.Frag} {mg : Str → Option Value} {base : Heap}
section
variable {σ : L2.St} {δ : DS} {H : Hp} {a b : Addr} {vs : List V} {l : Str} {q : Int} {x : V} {d : D} {t u : L2.TS} {E : Ends} {te : TE}
theorem at_intB {k : Bool} {r : List V → Hp → VK → Prop} (h : At K te σ H (.b k)) (hr : r = fun xs H Q => (∃ i, xs = [.int i] ∧ Q (.int i) H) ∨ ∃ k, xs = [.bl k] ∧ Q (.int (if k then 1 else 0)) H := by rfl) : At K (tCB r (tCons te tNil)) σ H (.i (if k then 1 else 0)) := by
  subst hr
  intro Q q
  refine h _ fun v H1 e1 r1 => ?_
  cases r1.val
  exact .inr ⟨k, rfl, q _ H1 e1 (.v _)⟩
theorem ite_dec {p : Prop} [Decidable p] {x y : Int} : (if decide p = true then x else y) = if p then x else y := by
  by_cases h : p
  · rw [if_pos h, if_pos (decide_eq_true h)]
  · rw [if_neg h, if_neg (by rw [decide_eq_false h]; decide)]
theorem at_lenT {n : Int} {r : List V → Hp → VK → Prop} (ha : At K te σ H (.v (.ref a))) (hs : SqT K H a vs) (hn : (vs.length : Int) = n) (hr : r = fun xs H Q => ∃ p ys, xs = [.ref p] ∧ (SqL K H p ys ∨ SqT K H p ys) ∧ Q (.int ys.length) H := by rfl) : At K (tCB r (tCons te tNil)) σ H (.i n) := by
  subst hr
  intro Q q
  refine ha _ fun v H1 e1 r1 => ?_
  cases r1.val
  refine ⟨a, vs, rfl, .inr ((Stay.same e1).seqT hs), ?_⟩
  rw [hn]
  exact q _ H1 e1 (.v _)
/-- row[0] is another name -/
theorem st_rowF {z y : Str} {i : Nat} (F : FrD K H σ δ) (hδ : δ[i]? = some (some (.v (.ref a)))) (hs : SqT K H a (.str z :: vs)) (h : decide (V.str z = .str y) = false) (k : u E σ H) : tIfS (tTest (tOp rEq (tOp (rIxT K) (tVar i) (tC (.int 0))) (tC (.str y)))) t u E σ H := by
  obtain ⟨v, h1, h2⟩ := F.get hδ
  cases h2.val
  exact ⟨_, h1, a, _, ((0 : Nat) : Int), .str z, rfl, rfl, hs, atI_nat (xs := V.str z :: vs) (j := 0) rfl, rfl, _, rfl, by rw [h]; exact iteF k⟩
theorem st_rowT {z y : Str} {i : Nat} (F : FrD K H σ δ) (hδ : δ[i]? = some (some (.v (.ref a)))) (hs : SqT K H a (.str z :: vs)) (h : decide (V.str z = .str y) = true) (k : t E σ H) : tIfS (tTest (tOp rEq (tOp (rIxT K) (tVar i) (tC (.int 0))) (tC (.str y)))) t u E σ H := by
  obtain ⟨v, h1, h2⟩ := F.get hδ
  cases h2.val
  exact ⟨_, h1, a, _, ((0 : Nat) : Int), .str z, rfl, rfl, hs, atI_nat (xs := V.str z :: vs) (j := 0) rfl, rfl, _, rfl, by rw [h]; exact iteT k⟩
theorem key_tup (F : FrD K H σ δ) (i j : Nat) (hi : δ[i]? = some (some (.s l))) (hj : δ[j]? = some (some (.i q))) :
    ∀ (H2 : Hp) (Q : VK), Same H H2 → (∀ b H3, Same H2 H3 → KeyAt H3 b l q → Q (.ref b) H3) → tTup (tCons (tVar i) (tCons (tVar j) tNil)) σ H2 Q := fun H2 Q e k => by
  refine ata_of (F.same e) (ea_cons (ev_var hi) (ea_cons (ev_var hj) ea_nil)) _ fun us H5 e5 r5 => ?_
  have eus : us = [.str l, .int q] := RepL.vals_eq (xs := [.str l, .int q]) r5
  subst eus
  exact ⟨by show 2 ≤ sizeLine; decide, fun p hp => k p _ (e5.trans (Same.new hp)) upd_same⟩
end

theorem sc_M_do_double : FnScope ["self", "row", "name", "x", "y", "total"] ["self", "row"] (defScope s_M_do_double) := ⟨rfl, rfl, rfl, by decide +kernel, rfl, by decide +kernel, by decide +kernel⟩
theorem met_M_do_double (T : Tx w K mg) : Met P w K mg base 2 (MC K) "do_double" (ActSp K (doubleA K)) [] := by
  obtain ⟨fd, F⟩ := T.defn (d := d_M_do_double) 64 rfl
  refine ⟨_, fd, ["self", "row"], [], T.cls 79, T.meth 90, F.ok (k := 1) sc_M_do_double (fun vs H Q E h => act_len (n := 2) ?_ h) (fun cdv A outer s H vs Q E hr h => ⟨_, PSs.nox (pss_cons (ps_set (i := 2) sc_M_do_double.nd rfl (Or.inl rfl) (pe_ix ix_tup (pv 1) pe_int (fun _ _ => rfl))) (pss_cons (ps_set (i := 3) sc_M_do_double.nd rfl (Or.inl rfl) (pe_mt (met_M_take T) hr (by decide) (pv 0) (pa_cons (pe_ix ix_tup (pv 1) pe_int (fun _ _ => rfl)) pa_nil))) (pss_cons (ps_set (i := 4) sc_M_do_double.nd rfl (Or.inl rfl) (pe_mt (met_M_take T) hr (by decide) (pv 0) (pa_cons (pe_ix ix_tup (pv 1) pe_int (fun _ _ => rfl)) pa_nil))) (pss_one (ps_if (pt_cmpR op_eq (pv 2) pe_str (nomark _)) (pss_one (ps_expr (pe_mt (met_M_put_split T) hr (by decide) (pv 0) (pa_cons (pe_ix ix_tup (pv 1) pe_int (fun _ _ => rfl)) (pa_cons (pe_op op_add (pe_op op_add (pv 3) (pv 4)) (pe_fld (pv 0) rfl)) pa_nil))))) (pss_one (ps_if (pt_cmpR op_eq (pv 2) pe_str (nomark _)) (pss_cons (ps_set (i := 5) sc_M_do_double.nd rfl (Or.inl rfl) (pe_op op_sub (pe_op op_sub (pv 3) (pv 4)) (pe_fld (pv 0) rfl))) (pss_cons (ps_dput (hu_of hr) (pe_fld (pv 0) rfl) (pe_ix ix_tup (pv 1) pe_int (fun _ _ => rfl)) (pe_op op_mod (pv 5) (pe_fld (pv 0) rfl)) rfl) (pss_one (ps_fld (pv 0) (pe_callTy call_int1 (by rfl) (T.free 66) (by decide +kernel) (pa_cons (pe_cmpR op_lt (pv 5) pe_int (nomark _)) pa_nil)) rfl)))) (pss_one (ps_if (pt_cmpR op_eq (pv 2) pe_str (nomark _)) (pss_one (ps_dput (hu_of hr) (pe_fld (pv 0) rfl) (pe_ix ix_tup (pv 1) pe_int (fun _ _ => rfl)) (pe_op op_and (pv 3) (pv 4)) rfl)) (pss_one (ps_if (pt_cmpR op_eq (pv 2) pe_str (nomark _)) (pss_one (ps_dput (hu_of hr) (pe_fld (pv 0) rfl) (pe_ix ix_tup (pv 1) pe_int (fun _ _ => rfl)) (pe_op op_or (pv 3) (pv 4)) rfl)) (pss_one (ps_dput (hu_of hr) (pe_fld (pv 0) rfl) (pe_ix ix_tup (pv 1) pe_int (fun _ _ => rfl)) (pe_op op_xor (pv 3) (pv 4)) rfl))))))))))))), ?_⟩), F.bindsN (fun _ _ _ _ _ _ us hl => match us, hl with | [_, _], _ => rfl), .nil⟩
  · rintro H us W s s' ⟨v, x, rfl, _⟩
    rfl
  obtain ⟨p, h, W, s, m, us, s', rfl, u, hm, ⟨v, x, rfl, ⟨a, avs, rfl, sq, ax⟩, hx, rfl⟩, q⟩ := h
  have w1 := u.w.1
  have w2 := u.w.2
  have F0 : FrD K H (L2.start ["self", "row", "name", "x", "y", "total"] [.ref p, .ref a]) [some (.v (.ref p)), some (.v (.ref a)), none, none, none, none] := FrD.start (N := ["self", "row", "name", "x", "y", "total"]) (RepL.vals _)
  refine st_set (arg_at F0 1 0 rfl sq rfl) fun v1 H1 e1 r1 => ?_
  have F1 := (F0.same e1).set r1 2
  replace sq := (Stay.same e1).seqT sq
  replace ax := ax.mono (Stay.same e1)
  replace u := u.same e1
  replace q := fun H' b u' => q H' ((Bar2.same e1).trans b) u'
  clear F0 r1
  cases x with
  | mark d => exact hx.elim
  | ask y => exact hx.elim
  | set to d => exact hx.elim
  | one o to y => exact hx.elim
  | two o to y z =>
    obtain ⟨b, f, g, rfl, kb, kf, kg⟩ := ax3 ax
    refine st_set (at_take (vat F1 0 rfl) (fun H2 e => arg_at (F1.same e) 1 2 rfl ((Stay.same e).seqT sq) rfl) kf u) fun v2 H2 e2 r2 => ?_
    have F2 := (F1.same e2).set r2 3
    replace sq := (Stay.same e2).seqT sq
    replace u := u.same e2
    replace kb := kb.same e2
    replace kg := kg.same e2
    replace q := fun H' b u' => q H' ((Bar2.same e2).trans b) u'
    clear F1 r2
    refine st_set (at_take (vat F2 0 rfl) (fun H2 e => arg_at (F2.same e) 1 3 rfl ((Stay.same e).seqT sq) rfl) kg u) fun v3 H3 e3 r3 => ?_
    have F3 := (F2.same e3).set r3 4
    replace sq := (Stay.same e3).seqT sq
    replace u := u.same e3
    replace kb := kb.same e3
    replace q := fun H' b u' => q H' ((Bar2.same e3).trans b) u'
    clear F2 r3
    cases o with
    | sum =>
      refine st_nameT (z := "sum") F3 rfl (by decide) ?_
      refine st_act (s := s) (ds := [.v (.ref b), .i (s.at y + s.at z + s.g)]) (by decide) (vat F3 0 rfl) u hm (fun H6 e6 => ata_cons (arg_at (F3.same e6) 1 1 rfl ((Stay.same e6).seqT sq) rfl) fun H7 e7 => ata_cons (at_addI (at_addI (vat ((F3.same e6).same e7) 3 rfl) fun H8 e8 => vat (((F3.same e6).same e7).same e8) 4 rfl) fun H8 e8 => at_flag T (vat (((F3.same e6).same e7).same e8) 0 rfl) (u.same ((e6.trans e7).trans e8))) fun _ _ => ata_nil)
        (fun vs H6 e6 rl => ⟨b, to, s.at y + s.at z + s.g, RepL.vals_eq (xs := [.ref b, .int (s.at y + s.at z + s.g)]) rl, kb.same e6, rfl⟩) fun H6 u6 b6 => q H6 b6 u6
    | less =>
      refine st_nameF (z := "less") F3 rfl (by decide) ?_
      refine st_nameT (z := "less") F3 rfl (by decide) ?_
      refine st_set (at_subI (at_subI (vat F3 3 rfl) fun H8 e8 => vat (F3.same e8) 4 rfl) fun H8 e8 => at_flag T (vat (F3.same e8) 0 rfl) (u.same e8)) fun v4 H4 e4 r4 => ?_
      have F4 := (F3.same e4).set r4 5
      replace sq := (Stay.same e4).seqT sq
      replace u := u.same e4
      replace kb := kb.same e4
      refine st_put T (v := (s.at y - s.at z - s.g) % W) (at_modI (vat F4 5 rfl) (fun H2 e => at_wide T (vat (F4.same e) 0 rfl) (u.same e)) w1) (fun _ e => vat (F4.same e) 0 rfl) (key_arg F4 1 1 rfl sq rfl kb) u (by omega) fun H5 u5 b5 => ?_
      have F5 := F4.mono (u.stay b5)
      refine st_flag T (v := if s.at y - s.at z - s.g < 0 then 1 else 0) (at_is (at_intB (at_ltB (vat F5 5 rfl) (fun _ _ => at_c) rfl)) (congrArg D.i ite_dec)) (fun _ e => vat (F5.same e) 0 rfl) u5 fun H6 u6 b6 => ?_
      exact q H6 (((Bar2.same e4).trans b5).trans b6) u6
    | both =>
      refine st_nameF (z := "both") F3 rfl (by decide) ?_
      refine st_nameF (z := "both") F3 rfl (by decide) ?_
      refine st_nameT (z := "both") F3 rfl (by decide) ?_
      exact st_put T (v := Builtin.bitAnd (s.at y) (s.at z)) (at_int0 (g := fun i j => .int (Builtin.bitAnd i j)) (vat F3 3 rfl) fun H8 e8 => vat (F3.same e8) 4 rfl) (fun _ e => vat (F3.same e) 0 rfl) (key_arg F3 1 1 rfl sq rfl kb) u (by omega) fun H5 u5 b5 => q H5 b5 u5
    | any =>
      refine st_nameF (z := "any") F3 rfl (by decide) ?_
      refine st_nameF (z := "any") F3 rfl (by decide) ?_
      refine st_nameF (z := "any") F3 rfl (by decide) ?_
      refine st_nameT (z := "any") F3 rfl (by decide) ?_
      exact st_put T (v := Builtin.bitOr (s.at y) (s.at z)) (at_int0 (g := fun i j => .int (Builtin.bitOr i j)) (vat F3 3 rfl) fun H8 e8 => vat (F3.same e8) 4 rfl) (fun _ e => vat (F3.same e) 0 rfl) (key_arg F3 1 1 rfl sq rfl kb) u (by omega) fun H5 u5 b5 => q H5 b5 u5
    | odd =>
      refine st_nameF (z := "odd") F3 rfl (by decide) ?_
      refine st_nameF (z := "odd") F3 rfl (by decide) ?_
      refine st_nameF (z := "odd") F3 rfl (by decide) ?_
      refine st_nameF (z := "odd") F3 rfl (by decide) ?_
      exact st_put T (v := Builtin.bitXor (s.at y) (s.at z)) (at_int0 (g := fun i j => .int (Builtin.bitXor i j)) (vat F3 3 rfl) fun H8 e8 => vat (F3.same e8) 4 rfl) (fun _ e => vat (F3.same e) 0 rfl) (key_arg F3 1 1 rfl sq rfl kb) u (by omega) fun H5 u5 b5 => q H5 b5 u5
end Ww

set_option Elab.async false
set_option linter.all false
set_option maxRecDepth 100000
set_option maxHeartbeats 4000000
/-! W14d: the machine's go and run (printed from W14d.src by gen1.py). -/
namespace Ww
open PySem PySem.Spec PyProof.Rows L2
open C8 (Cal CalAt Met Mak pe_c pe_mk pe_mt pe_mt0)
variable {P : Program} {w : World} {K : PySem.W.Frag} {mg : Str → Option Value} {base : Heap}

theorem sc_M_go : FnScope ["self", "row", "product"] ["self", "row"] (defScope s_M_go) := ⟨rfl, rfl, rfl, by decide +kernel, rfl, by decide +kernel, by decide +kernel⟩
theorem met_M_go (T : Tx w K mg) : Met P w K mg base 3 (MC K) "go" (ActSp K (rowA K)) [] := by
  obtain ⟨fd, F⟩ := T.defn (d := d_M_go) 65 rfl
  refine ⟨_, fd, ["self", "row"], [], T.cls 79, T.meth 91, F.ok (k := 2) sc_M_go (fun vs H Q E h => act_len (n := 2) ?_ h) (fun cdv A outer s H vs Q E hr h => ⟨_, PSs.nox (pss_one (ps_if (pt_cmpR op_eq (pe_ix ix_tup (pv 1) pe_int (fun _ _ => rfl)) pe_str (nomark _)) (pss_one (ps_fld (pv 0) (pe_ix ix_tup (pv 1) pe_int (fun _ _ => rfl)) rfl)) (pss_one (ps_if (pt_cmpR op_eq (pe_ix ix_tup (pv 1) pe_int (fun _ _ => rfl)) pe_str (nomark _)) (pss_one (ps_fld (pv 0) (pe_callTy call_int1 (by rfl) (T.free 66) (by decide +kernel) (pa_cons (pe_cmpR op_ne (pe_mt (met_M_take T) hr (by decide) (pv 0) (pa_cons (pe_ix ix_tup (pv 1) pe_int (fun _ _ => rfl)) pa_nil)) pe_int (nomark _)) pa_nil)) rfl)) (pss_one (ps_if (pt_cmpR op_eq (pe_ix ix_tup (pv 1) pe_int (fun _ _ => rfl)) pe_str (nomark _)) (pss_cons (ps_set (i := 2) sc_M_go.nd rfl (Or.inl rfl) (pe_op op_mul (pe_mt (met_M_take T) hr (by decide) (pv 0) (pa_cons (pe_ix ix_tup (pv 1) pe_int (fun _ _ => rfl)) pa_nil)) (pe_mt (met_M_take T) hr (by decide) (pv 0) (pa_cons (pe_ix ix_tup (pv 1) pe_int (fun _ _ => rfl)) pa_nil)))) (pss_cons (ps_dput (hu_of hr) (pe_fld (pv 0) rfl) (pe_ix ix_tup (pv 1) pe_int (fun _ _ => rfl)) (pe_op op_mod (pv 2) (pe_fld (pv 0) rfl)) rfl) (pss_one (ps_dput (hu_of hr) (pe_fld (pv 0) rfl) (pe_ix ix_tup (pv 1) pe_int (fun _ _ => rfl)) (pe_op op_fdivW (pv 2) (pe_fld (pv 0) rfl)) rfl)))) (pss_one (ps_if (pt_cmpR op_eq (pe_callB call_len_seq (by rfl) (T.free 63) PySem.boot_len (pa_cons (pv 1) pa_nil)) pe_int (nomark _)) (pss_one (ps_expr (pe_mt (met_M_do_simple T) hr (by decide) (pv 0) (pa_cons (pv 1) pa_nil)))) (pss_one (ps_expr (pe_mt (met_M_do_double T) hr (by decide) (pv 0) (pa_cons (pv 1) pa_nil)))))))))))), ?_⟩), F.bindsN (fun _ _ _ _ _ _ us hl => match us, hl with | [_, _], _ => rfl), .nil⟩
  · rintro H us W s s' ⟨v, x, rfl, _⟩
    rfl
  obtain ⟨p, h, W, s, m, us, s', rfl, u, hm, ⟨v, x, rfl, ⟨a, avs, rfl, sq, ax⟩, rfl⟩, q⟩ := h
  have F0 : FrD K H (L2.start ["self", "row", "product"] [.ref p, .ref a]) [some (.v (.ref p)), some (.v (.ref a)), none] := FrD.start (N := ["self", "row", "product"]) (RepL.vals _)
  have hX : RepX K H (.ref a) x := ⟨a, avs, rfl, sq, ax⟩
  have simple : ∀ z H1, Same H H1 → x.name = z → decide (V.str z = .str "mark") = false → decide (V.str z = .str "ask") = false → decide (V.str z = .str "times") = false → Row.simple x → avs.length = 2 → _ := fun z H1 e1 ez n1 n2 n3 hs hl => True.intro
  clear simple
  cases x with
  | mark d =>
    have ev := axd ax
    subst ev
    refine st_rowT (z := "mark") F0 rfl sq (by decide) ?_
    exact st_flag T (v := d) (arg_at F0 1 1 rfl sq rfl) (fun _ e => vat (F0.same e) 0 rfl) u fun H2 u2 b2 => q H2 b2 (u2.up (by omega))
  | ask y =>
    obtain ⟨b, rfl, kb⟩ := ax1 ax
    refine st_rowF (z := "ask") F0 rfl sq (by decide) ?_
    refine st_rowT (z := "ask") F0 rfl sq (by decide) ?_
    refine st_flag T (v := if s.at y ≠ 0 then 1 else 0) (at_is (at_intB (at_ne (y := .int 0) (x := .int (s.at y)) (at_take (vat F0 0 rfl) (fun H2 e => arg_at (F0.same e) 1 1 rfl ((Stay.same e).seqT sq) rfl) kb u) (fun _ _ => at_c) rfl)) (congrArg D.i ?_)) (fun _ e => vat (F0.same e) 0 rfl) u fun H2 u2 b2 => q H2 b2 (u2.up (by omega))
    by_cases e : s.at y = 0
    · rw [e]
      rfl
    · rw [if_pos e, if_pos]
      rw [decide_eq_false (fun z => e (V.int.inj z))]
      rfl
  | set to d =>
    obtain ⟨b, rfl, kb⟩ := ax1d ax
    refine st_rowF (z := "set") F0 rfl sq (by decide) ?_
    refine st_rowF (z := "set") F0 rfl sq (by decide) ?_
    refine st_rowF (z := "set") F0 rfl sq (by decide) ?_
    refine st_ifT (att_test (at_eq (x := .int 3) (at_lenT (vat F0 1 rfl) sq rfl) (fun _ _ => at_c) (by decide))) fun H2 e2 => ?_
    exact st_act (s := s) (ds := [.v (.ref a)]) (by decide) (vat (F0.same e2) 0 rfl) (u.same e2) hm (fun H3 e3 => ata_cons (vat ((F0.same e2).same e3) 1 rfl) fun _ _ => ata_nil) (fun vs H3 e3 rl => ⟨.ref a, _, RepL.vals_eq (xs := [.ref a]) rl, hX.mono (Stay.same (e2.trans e3)), trivial, rfl⟩) fun H3 u3 b3 => q H3 ((Bar2.same e2).trans b3) u3
  | one o to y =>
    obtain ⟨b, f, rfl, kb, kf⟩ := ax2 ax
    refine st_rowF (z := o.str) F0 rfl sq (by cases o <;> decide) ?_
    refine st_rowF (z := o.str) F0 rfl sq (by cases o <;> decide) ?_
    refine st_rowF (z := o.str) F0 rfl sq (by cases o <;> decide) ?_
    refine st_ifT (att_test (at_eq (x := .int 3) (at_lenT (vat F0 1 rfl) sq rfl) (fun _ _ => at_c) (by decide))) fun H2 e2 => ?_
    exact st_act (s := s) (ds := [.v (.ref a)]) (by decide) (vat (F0.same e2) 0 rfl) (u.same e2) hm (fun H3 e3 => ata_cons (vat ((F0.same e2).same e3) 1 rfl) fun _ _ => ata_nil) (fun vs H3 e3 rl => ⟨.ref a, _, RepL.vals_eq (xs := [.ref a]) rl, hX.mono (Stay.same (e2.trans e3)), trivial, rfl⟩) fun H3 u3 b3 => q H3 ((Bar2.same e2).trans b3) u3
  | two o to y z =>
    obtain ⟨b, f, g, rfl, kb, kf, kg⟩ := ax3 ax
    refine st_rowF (z := o.str) F0 rfl sq (by cases o <;> decide) ?_
    refine st_rowF (z := o.str) F0 rfl sq (by cases o <;> decide) ?_
    refine st_rowF (z := o.str) F0 rfl sq (by cases o <;> decide) ?_
    refine st_ifF (att_test (at_eq (x := .int 4) (at_lenT (vat F0 1 rfl) sq rfl) (fun _ _ => at_c) (by decide))) fun H2 e2 => ?_
    exact st_act (s := s) (ds := [.v (.ref a)]) (by decide) (vat (F0.same e2) 0 rfl) (u.same e2) hm (fun H3 e3 => ata_cons (vat ((F0.same e2).same e3) 1 rfl) fun _ _ => ata_nil) (fun vs H3 e3 rl => ⟨.ref a, _, RepL.vals_eq (xs := [.ref a]) rl, hX.mono (Stay.same (e2.trans e3)), trivial, rfl⟩) fun H3 u3 b3 => q H3 ((Bar2.same e2).trans b3) u3

def RunSp (K : PySem.W.Frag) : Sp := fun vs H Q _ => ∃ p h W s m v rows, vs = [.ref p, v] ∧ MAt K H p h W s m ∧ RowsX K H v rows ∧ m + rows.length < 100000 ∧ (∀ r ∈ rows, Row.ok place r) ∧ ∀ H', Bar2 p h H H' → MAt K H' p h W (runRows W s rows) (m + rows.length) → Q .non H'
theorem runRows_succ {W : Int} {s : MS} {rows : List RowP} {k : Nat} {x : RowP} (h : rows[k]? = some x) : runRows W s (rows.take (k + 1)) = rowStep W (runRows W s (rows.take k)) x := by
  unfold runRows
  rw [List.take_add_one, h, List.foldl_append]
  rfl
theorem cut_eq {a b : Nat} (h : a = b) {α : Sort _} (f : Nat → α) : f a = f b := congrArg f h
theorem st_forA {ia : Nat} {te : TE} {tb : L2.TS} {E : Ends} {σ : L2.St} {H : Hp} {a : Addr} {vs : List V} (Pv : Hp → Nat → L2.St → Hp → Prop) (h : At K te σ H (.v (.ref a))) (hs : SqT K H a vs) (h0 : ∀ H1, Same H H1 → Pv H1 0 σ H1)
    (hst : ∀ H1 i σ' H', Same H H1 → Pv H1 i σ' H' → Stay H1 H')
    (hb : ∀ H1 i v σ' H', Same H H1 → vs[i]? = some v → Pv H1 i σ' H' → tb { E with nx := Pv H1 (i + 1), ct := Pv H1 (i + 1), bk := E.nx } (σ'.set ia (some v)) H')
    (hd : ∀ H1 σ' H', Same H H1 → Pv H1 vs.length σ' H' → E.nx σ' H') : tFor (iTup K te) (gName ia) tb E σ H := by
  refine h _ fun v H1 e1 r1 => ?_
  cases r1.val
  exact ⟨a, rfl, ⟨vs, (Stay.same e1).seqT hs⟩, for_tup (K := K) (a := a) (xs := vs) (Pv H1) (h0 H1 e1) (fun i σ' H' _ z => (hst H1 i σ' H' e1 z).seqT ((Stay.same e1).seqT hs)) (fun i x σ2 H2 hx z => hb H1 i x σ2 H2 e1 hx z) fun σ2 H2 z => hd H1 σ2 H2 e1 z⟩
theorem sc_M_run : FnScope ["self", "rows", "row"] ["self", "rows"] (defScope s_M_run) := ⟨rfl, rfl, rfl, by decide +kernel, rfl, by decide +kernel, by decide +kernel⟩
theorem met_M_run (T : Tx w K mg) : Met P w K mg base 7 (MC K) "run" (RunSp K) [] := by
  obtain ⟨fd, F⟩ := T.defn (d := d_M_run) 66 rfl
  refine ⟨_, fd, ["self", "rows"], [], T.cls 79, T.meth 92, F.ok (k := 6) sc_M_run (fun vs H Q E h => ?_) (fun cdv A outer s H vs Q E hr h => ⟨_, PSs.nox (pss_cons (ps_if (pt_not (pt_val (pe_callB (cr_all rfl) (by rfl) (T.free 64) (by decide +kernel) (pa_cons (pe_lc (own := [("row", 2)]) (g := gName 2) (tt := tYes) rfl sc_M_run.nd (pi_tup (pv 1)) (blkOk_by (N := ["self", "rows", "row"]) (sc := defScope s_M_run) (by decide +kernel)) (fun _ _ _ _ _ => pg_name (i := 2) sc_M_run.nd rfl (Or.inl rfl)) (fun _ _ _ _ _ => pts_nil) (fun _ _ _ _ _ => (pe_c (cal_is_row T) hr (by decide) (by rfl) (pa_cons (pv 2) pa_nil)))) pa_nil)))) (pss_one ps_never) pss_nil) (pss_one (ps_for PassesOwn.never rfl (pi_tup (pv 1)) (pg_name (i := 2) sc_M_run.nd rfl (Or.inl rfl)) (pss_one (ps_expr (pe_mt (met_M_go T) hr (by decide) (pv 0) (pa_cons (pv 2) pa_nil))))))), ?_⟩), F.bindsN (fun _ _ _ _ _ _ us hl => match us, hl with | [_, _], _ => rfl), .nil⟩
  · obtain ⟨p, h, W, s, m, v, rows, rfl, _⟩ := h
    rfl
  obtain ⟨p, h, W, s, m, v, rows, rfl, u, ⟨a, vs, rfl, sq, rx⟩, hm, hok, q⟩ := h
  have F0 : FrD K H (L2.start ["self", "rows", "row"] [.ref p, .ref a]) [some (.v (.ref p)), some (.t (rows.map RowP.dat)), none] := FrD.start (N := ["self", "rows", "row"]) (.cons (.v _) (.cons (.t sq rx.repL) .nil))
  have F1 : FrD K H (L2.start ["self", "rows", "row"] [.ref p, .ref a]) [some (.v (.ref p)), some (.v (.ref a)), none] := FrD.start (N := ["self", "rows", "row"]) (RepL.vals _)
  refine st_skip (att_of F0 (et_not (b := true) (et_B (ev_all (ev_var (i := 1) rfl) (by rw [List.length_map]; omega) fun d hd => ?_)))) fun H2 e2 => ?_
  · obtain ⟨x, hx, rfl⟩ := List.mem_map.mp hd
    exact ev_call (ea_cons (ev_var rfl) ea_nil) ⟨⟨x, rfl, hok x hx⟩, rfl⟩
  replace F1 := F1.same e2
  replace u := u.same e2
  replace sq := (Stay.same e2).seqT sq
  replace rx := rx.same e2
  replace q := fun H' b u' => q H' ((Bar2.same e2).trans b) u'
  refine st_forA (a := a) (vs := vs) (fun H3 k σ' H' => Bar2 p h H3 H' ∧ MAt K H' p h W (runRows W s (rows.take k)) (m + k) ∧ FrD K H' σ' [some (.v (.ref p)), some (.v (.ref a)), none]) (vat F1 1 rfl) sq (fun H3 e3 => ⟨Bar2.refl _ _ _, u.same e3, F1.same e3⟩) (fun H3 k σ' H' e3 z => (u.same e3).stay z.1) ?_ ?_
  · rintro H3 k y σ' H' e3 hy ⟨b, u', F'⟩
    obtain ⟨x, hx, rx'⟩ := rx.get hy
    have hk : k < rows.length := (List.getElem?_eq_some_iff.mp hx).1
    have F2 : FrD K H' (σ'.set 2 (some y)) [some (.v (.ref p)), some (.v (.ref a)), some (.v y)] := F'.set (.v _) 2
    refine st_act (s := runRows W s (rows.take k)) (ds := [.v y]) (by decide) (vat F2 0 rfl) u' (by omega) (fun H4 e4 => ata_cons (vat (F2.same e4) 2 rfl) fun _ _ => ata_nil) (fun vs H4 e4 rl => ⟨y, x, RepL.vals_eq (xs := [y]) rl, ((rx'.mono (Stay.same e3)).mono ((u.same e3).stay b)).mono (Stay.same e4), rfl⟩) fun H4 u4 b4 => ?_
    rw [← runRows_succ hx] at u4
    exact ⟨b.trans b4, u4, (F2.mono (u'.stay b4)).forget 2⟩
  · rintro H3 σ' H' e3 ⟨b, u', F'⟩
    rw [rx.length, List.take_length] at u'
    exact q H' ((Bar2.same e3).trans b) u'
end Ww

set_option Elab.async false
set_option linter.all false
set_option maxRecDepth 100000
set_option maxHeartbeats 4000000
/-! W14e: the machine made, filled and read (printed from W14e.src by gen1.py). -/
namespace Ww
open PySem PySem.Spec PyProof.Rows L2
open C8 (Cal CalAt Met Mak pe_c pe_mk pe_mt pe_mt0)
variable {P : Program} {w : World} {K : PySem.W.Frag} {mg : Str → Option Value} {base : Heap}

def CheckSp (K : PySem.W.Frag) : Sp := fun vs H Q _ => ∃ (p : Addr) (l : Lt) (q : Int), vs = [.ref p, .str l.str, .int q] ∧ place q ∧ ∀ H', Same H H' → Q .non H'
theorem sc_M_check_cell : FnScope ["self", "letter", "at"] ["self", "letter", "at"] (defScope s_M_check_cell) := ⟨rfl, rfl, rfl, by decide +kernel, rfl, by decide +kernel, by decide +kernel⟩
theorem met_M_check_cell (T : Tx w K mg) : Met P w K mg base 3 (MC K) "check_cell" (CheckSp K) [] := by
  obtain ⟨fd, F⟩ := T.defn (d := d_M_check_cell) 58 rfl
  refine ⟨_, fd, ["self", "letter", "at"], [], T.cls 79, T.meth 84, F.ok (k := 2) sc_M_check_cell (fun vs H Q E h => ?_) (fun cdv A outer s H vs Q E hr h => ⟨_, PSs.nox (pss_one (ps_if (PW.pt (pw_or (pt_not (pt_val (pe_c (cal_is_letter T) hr (by decide) (by rfl) (pa_cons (pv 1) pa_nil)))) (pw_or1 (pt_not (pt_val (pe_c (cal_is_place T) hr (by decide) (by rfl) (pa_cons (pv 2) pa_nil))))))) (pss_one ps_never) pss_nil)), ?_⟩), F.bindsN (fun _ _ _ _ _ _ us hl => match us, hl with | [_, _, _], _ => rfl), .nil⟩
  · obtain ⟨p, l, q, rfl, _⟩ := h
    rfl
  obtain ⟨p, l, q, rfl, hq, k⟩ := h
  have F0 : FrD K H (L2.start ["self", "letter", "at"] [.ref p, .str l.str, .int q]) [some (.v (.ref p)), some (.s l.str), some (.i q)] := FrD.start (N := ["self", "letter", "at"]) (RepL.vals _)
  refine st_ifF (att_of F0 (et_or (et_not (b := true) (et_B (ev_call (ea_cons (ev_var (i := 1) rfl) ea_nil) ⟨⟨l, rfl⟩, rfl⟩))) (et_not (b := true) (et_B (ev_call (ea_cons (ev_var (i := 2) rfl) ea_nil) ⟨⟨q, rfl, hq⟩, rfl⟩))))) fun H2 e2 => ?_
  exact k H2 e2
theorem st_check {σ : L2.St} {H : Hp} {E : Ends} {p h : Addr} {W : Int} {s : MS} {m : Nat} {δ : DS} {l : Lt} {q : Int} {XE : XK} (F : FrD K H σ δ) (u : MAt K H p h W s m) (h0 : δ[0]? = some (some (.v (.ref p)))) (h1 : δ[1]? = some (some (.s l.str))) (h2 : δ[2]? = some (some (.i q))) (hq : place q)
    (k : ∀ H2, Same H H2 → E.nx σ H2) : tDrop (tMeth (MC K) "check_cell" (CheckSp K) [] XE (tVar 0) (tCons (tVar 1) (tCons (tVar 2) tNil))) E σ H := by
  obtain ⟨dx, e⟩ := u.o
  exact st_meth (ds := [.s l.str, .i q]) (vat F 0 h0) e (look_m "check_cell" (by decide)) (fun H2 e2 => ata_of (F.same e2) (ea_cons (ev_var h1) (ea_cons (ev_var h2) ea_nil))) fun vs H2 e2 rv => by
    have evs : vs = [.str l.str, .int q] := RepL.vals_eq (xs := [.str l.str, .int q]) rv
    subst evs
    exact ⟨p, l, q, rfl, hq, fun H' e' => k H' (e2.trans e')⟩
def putWA (H : Hp) (us : List V) (W : Int) (s s' : MS) : Prop := ∃ (l : Lt) (q v : Int), us = [.str l.str, .int q, .int v] ∧ place q ∧ 0 ≤ v ∧ v < W ∧ s' = { s with f := putf s.f l.str q v }
theorem sc_M_put : FnScope ["self", "letter", "at", "word"] ["self", "letter", "at", "word"] (defScope s_M_put) := ⟨rfl, rfl, rfl, by decide +kernel, rfl, by decide +kernel, by decide +kernel⟩
theorem met_M_put (T : Tx w K mg) : Met P w K mg base 4 (MC K) "put" (ActSp K putWA) [] := by
  obtain ⟨fd, F⟩ := T.defn (d := d_M_put) 59 rfl
  refine ⟨_, fd, ["self", "letter", "at", "word"], [], T.cls 79, T.meth 85, F.ok (k := 3) sc_M_put (fun vs H Q E h => act_len (n := 4) ?_ h) (fun cdv A outer s H vs Q E hr h => ⟨_, PSs.nox (pss_cons (ps_expr (pe_mt (met_M_check_cell T) hr (by decide) (pv 0) (pa_cons (pv 1) (pa_cons (pv 2) pa_nil)))) (pss_cons (ps_if (PW.pt (pw_or (pt_not (pt_val (pe_c (cal_is_whole T) hr (by decide) (by rfl) (pa_cons (pv 3) pa_nil)))) (pw_or (pt_cmpR op_lt (pv 3) pe_int (nomark _)) (pw_or1 (pt_cmpR op_ge (pv 3) (pe_fld (pv 0) rfl) (nomark _)))))) (pss_one ps_never) pss_nil) (pss_one (ps_dput (hu_of hr) (pe_fld (pv 0) rfl) (pe_tup (pa_cons (pv 1) (pa_cons (pv 2) pa_nil))) (pv 3) rfl)))), ?_⟩), F.bindsN (fun _ _ _ _ _ _ us hl => match us, hl with | [_, _, _, _], _ => rfl), .nil⟩
  · rintro H us W s s' ⟨l, q, v, rfl, _⟩
    rfl
  obtain ⟨p, h, W, s, m, us, s', rfl, u, hm, ⟨l, q, v, rfl, hq, hv, hW, rfl⟩, k⟩ := h
  have F0 : FrD K H (L2.start ["self", "letter", "at", "word"] [.ref p, .str l.str, .int q, .int v]) [some (.v (.ref p)), some (.s l.str), some (.i q), some (.i v)] := FrD.start (N := ["self", "letter", "at", "word"]) (RepL.vals _)
  refine st_check F0 u rfl rfl rfl hq fun H2 e2 => ?_
  replace F0 := F0.same e2
  replace u := u.same e2
  refine st_skip (att_or (att_of F0 (et_not (b := true) (et_B (ev_call (ea_cons (ev_var (i := 3) rfl) ea_nil) ⟨⟨v, rfl⟩, rfl⟩)))) fun H3 e3 => att_or (att_of (F0.same e3) (et_test (ev_ltB (b := false) (ev_var (i := 3) rfl) ev_c (decide_eq_false (by omega))))) fun H4 e4 => att_test (at_geB (n := v) (vat ((F0.same e3).same e4) 3 rfl) (fun H5 e5 => at_wide T (vat (((F0.same e3).same e4).same e5) 0 rfl) (u.same ((e3.trans e4).trans e5))) (decide_eq_false (by omega)))) fun H3 e3 => ?_
  replace F0 := F0.same e3
  replace u := u.same e3
  exact st_put T (v := v) (vat F0 3 rfl) (fun _ e => vat (F0.same e) 0 rfl) (key_tup F0 1 2 rfl rfl) u (by omega) fun H5 u5 b5 => k H5 ((Bar2.same (e2.trans e3)).trans b5) u5
def WordSp (K : PySem.W.Frag) : Sp := fun vs H Q _ => ∃ p h W s m, ∃ (l : Lt) (q : Int), vs = [.ref p, .str l.str, .int q] ∧ MAt K H p h W s m ∧ place q ∧ ∀ H', Same H H' → Q (.int (s.f l.str q)) H'
theorem sc_M_word : FnScope ["self", "letter", "at"] ["self", "letter", "at"] (defScope s_M_word) := ⟨rfl, rfl, rfl, by decide +kernel, rfl, by decide +kernel, by decide +kernel⟩
theorem met_M_word (T : Tx w K mg) : Met P w K mg base 4 (MC K) "word" (WordSp K) [] := by
  obtain ⟨fd, F⟩ := T.defn (d := d_M_word) 60 rfl
  refine ⟨_, fd, ["self", "letter", "at"], [], T.cls 79, T.meth 86, F.ok (k := 3) sc_M_word (fun vs H Q E h => ?_) (fun cdv A outer s H vs Q E hr h => ⟨_, PSs.nox (pss_cons (ps_expr (pe_mt (met_M_check_cell T) hr (by decide) (pv 0) (pa_cons (pv 1) (pa_cons (pv 2) pa_nil)))) (pss_one (ps_ret (pe_dget2 (hu_of hr) (pe_fld (pv 0) rfl) (pe_tup (pa_cons (pv 1) (pa_cons (pv 2) pa_nil))) pe_int ⟨rfl, rfl, rfl, rfl⟩)))), ?_⟩), F.bindsN (fun _ _ _ _ _ _ us hl => match us, hl with | [_, _, _], _ => rfl), .nil⟩
  · obtain ⟨p, h, W, s, m, l, q, rfl, _⟩ := h
    rfl
  obtain ⟨p, h, W, s, m, l, q, rfl, u, hq, k⟩ := h
  have F0 : FrD K H (L2.start ["self", "letter", "at"] [.ref p, .str l.str, .int q]) [some (.v (.ref p)), some (.s l.str), some (.i q)] := FrD.start (N := ["self", "letter", "at"]) (RepL.vals _)
  refine st_check F0 u rfl rfl rfl hq fun H2 e2 => ?_
  replace F0 := F0.same e2
  replace u := u.same e2
  refine at_get T (vat F0 0 rfl) (key_tup F0 1 2 rfl rfl) u _ fun v H3 e3 r3 => ?_
  cases r3.val
  exact k H3 (e2.trans e3)
theorem sc_M_init : FnScope ["self", "w"] ["self", "w"] (defScope s_M_init) := ⟨rfl, rfl, rfl, by decide +kernel, rfl, by decide +kernel, by decide +kernel⟩
def initM (K : PySem.W.Frag) : Sp := fun vs H Q _ => ∃ p dx w, vs = [.ref p, .int w] ∧ (0 ≤ w ∧ w ≤ 30) ∧ H p = some (.ins (MC K) dx []) ∧ ∀ h H', H h = none → Bar2 p h H H' → MAt K H' p h (2 ^ w.toNat) ⟨fun _ _ => 0, 0⟩ 0 → Q .non H'
theorem pow_lt40 {w : Int} (h0 : 0 ≤ w) (h : w ≤ 30) : (0 : Int) < 2 ^ w.toNat ∧ (2 : Int) ^ w.toNat < 2 ^ 40 := by
  have e : ((2 ^ w.toNat : Nat) : Int) = 2 ^ w.toNat := by rw [Int.natCast_pow]; rfl
  have h1 : 0 < 2 ^ w.toNat := Nat.pow_pos (by decide)
  have h2 : 2 ^ w.toNat < 2 ^ 40 := Nat.pow_lt_pow_right (by decide) (by omega)
  rw [← e]
  constructor
  · exact Int.ofNat_lt.mpr h1
  · have : ((2 ^ w.toNat : Nat) : Int) < ((2 ^ 40 : Nat) : Int) := Int.ofNat_lt.mpr h2
    exact this
theorem mak_Machine (T : Tx w K mg) : Mak P w K mg base 1 "Machine" (MC K) (initM K) [] := by
  obtain ⟨fd, F⟩ := T.defn (d := d_M_init) 57 rfl
  refine ⟨_, fd, ["self", "w"], [], T.mkr 80, F.ok (k := 0) sc_M_init (fun vs H Q E h => ?_) (fun cdv A outer s H vs Q E hr h => ⟨_, PSs.nox (pss_cons (ps_fld (pv 0) (pe_op op_shl pe_int (pv 1)) rfl) (pss_cons (ps_fld (pv 0) pe_dnewT rfl) (pss_one (ps_fld (pv 0) pe_int rfl)))), ?_⟩), T.glo 57, F.bindsN (fun _ _ _ _ _ _ us hl => match us, hl with | [_, _], _ => rfl), .nil⟩
  · obtain ⟨p, dx, w, rfl, _⟩ := h
    rfl
  obtain ⟨p, dx, w, rfl, hw, ho, q⟩ := h
  have v0 : ∀ H, At K (tVar 0) (L2.start ["self", "w"] [.ref p, .int w]) H (.v (.ref p)) := fun H => at_var rfl
  have v1 : ∀ H, At K (tVar 1) (L2.start ["self", "w"] [.ref p, .int w]) H (.v (.int w)) := fun H => at_var rfl
  have e1 : (1 : Int) * 2 ^ w.toNat = 2 ^ w.toNat := Int.one_mul _
  refine st_fld (x := .int (2 ^ w.toNat)) (at_is (at_int (n := 1) (m := w) (g := fun i j => .int (i * 2 ^ j.toNat)) at_c (fun _ _ => v1 _) ⟨hw.1, by omega, by decide⟩) (congrArg D.i e1)) (fun _ _ => v0 _) ho (T.cls 79) (T.noat 81) (by decide) fun H1 e1 => ?_
  intro l hl
  refine v0 _ _ fun y H3 e3 r3 => ?_
  cases r3.val
  have hpl : p ≠ l := fun e => by
    rw [e, upd_same] at hl
    cases hl
  have h3 : H3 p = some (.ins (MC K) dx [("wide", .int (2 ^ w.toNat))]) := e3 _ _ (by
    rw [upd_ne hpl]
    exact upd_same)
  have h3l : H3 l = some (.dT []) := e3 _ _ upd_same
  refine ⟨p, MC K, dx, _, rfl, h3, T.cls 79, T.noat 82, by show 1 < 1000; decide, ?_⟩
  refine st_fld at_c (fun _ _ => v0 _) upd_same (T.cls 79) (T.noat 83) (by show 2 < 1000; decide) fun H4 e4 => ?_
  have b12 : Bar2 p l H (upd H1 p (.ins (MC K) dx [("wide", .int (2 ^ w.toNat))])) := (Bar2.same e1).trans Bar2.updP
  have hHl : H l = none := by
    cases e : H l with
    | none => rfl
    | some o =>
      rcases Classical.em (l = p) with e' | e'
      · exact absurd e'.symm hpl
      · have a1 := e1 _ _ e
        rw [upd_ne e'] at hl
        rw [hl] at a1
        cases a1
  refine q l _ hHl ?_ ⟨⟨dx, upd_same⟩, ⟨[], ?_, Nat.le_refl _, fun _ _ => rfl⟩, pow_lt40 hw.1 hw.2⟩
  · exact ((((b12.trans Bar2.updL).trans (Bar2.same e3)).trans Bar2.updP).trans (Bar2.same e4)).trans Bar2.updP
  · rw [upd_ne hpl.symm]
    refine e4 _ _ ?_
    rw [upd_ne hpl.symm]
    exact h3l
end Ww

set_option Elab.async false
set_option linter.all false
set_option maxRecDepth 100000
set_option maxHeartbeats 4000000
/-! W15a: more loops at one state. -/
namespace Ww
open PySem PySem.Spec PyProof.Rows L2
section
variable {K : PySem.W.Frag} {σ : L2.St} {H : Hp} {E : Ends} {te tn : TE} {tb : L2.TS} {a b : Nat}
/-- for x, y in t -/
theorem st_forP {ps : List (D × D)} (Pv : Hp → Nat → L2.St → Hp → Prop) (h : At K te σ H (.t (ps.map fun p => .t [p.1, p.2]))) (h0 : ∀ H1, Same H H1 → Pv H1 0 σ H1)
    (hst : ∀ H1 i σ' H', Same H H1 → Pv H1 i σ' H' → Stay H1 H')
    (hb : ∀ H1 i p v u σ' H', Same H H1 → ps[i]? = some p → Rep K H' v p.1 → Rep K H' u p.2 → Pv H1 i σ' H' → tb { E with nx := Pv H1 (i + 1), ct := Pv H1 (i + 1), bk := E.nx } ((σ'.set a (some v)).set b (some u)) H')
    (hd : ∀ H1 σ' H', Same H H1 → Pv H1 ps.length σ' H' → E.nx σ' H') : tFor (iTup K te) (gTup K 2 (gCons (gName a) (gCons (gName b) gNil))) tb E σ H := by
  refine h _ fun v H1 e1 r1 => ?_
  obtain ⟨p, vs, rfl, hs, rl⟩ := r1.tup
  refine ⟨p, rfl, ⟨vs, hs⟩, for_tup (K := K) (a := p) (xs := vs) (Pv H1) (h0 H1 e1) (fun i σ' H' _ z => (hst H1 i σ' H' e1 z).seqT hs) ?_ fun σ2 H2 z => ?_⟩
  · intro i x σ2 H2 hx z
    obtain ⟨d, hd', rd⟩ := rl.get' hx
    rw [List.getElem?_map] at hd'
    obtain ⟨y, hy, rfl⟩ := Option.map_eq_some_iff.mp hd'
    obtain ⟨q, us, rfl, hq, rq⟩ := (rd.mono (hst H1 i σ2 H2 e1 z)).tup
    cases rq with
    | cons r1 rq =>
      cases rq with
      | cons r2 rq =>
        cases rq
        exact ⟨q, _, rfl, hq, rfl, _, _, rfl, _, _, rfl, rfl, hb H1 i y _ _ σ2 H2 e1 hy r1 r2 z⟩
  · have e := rl.length
    rw [List.length_map] at e
    rw [e] at z
    exact hd H1 σ2 H2 e1 z
/-- for i, x in enumerate(t) -/
theorem st_enumT {ds : List D} (Pv : Hp → Nat → L2.St → Hp → Prop) (h : At K te σ H (.t ds)) (h0 : ∀ H1, Same H H1 → Pv H1 0 σ H1)
    (hst : ∀ H1 i σ' H', Same H H1 → Pv H1 i σ' H' → Stay H1 H') (hmono : ∀ H1 i σ' H' H'', Same H' H'' → Pv H1 i σ' H' → Pv H1 i σ' H'')
    (hb : ∀ H1 i d v σ' H', Same H H1 → ds[i]? = some d → Rep K H' v d → Pv H1 i σ' H' → tb { E with nx := Pv H1 (i + 1), ct := Pv H1 (i + 1), bk := E.nx } ((σ'.set a (some (.int (i : Nat)))).set b (some v)) H')
    (hd : ∀ H1 σ' H', Same H H1 → Pv H1 ds.length σ' H' → E.nx σ' H') : tFor (iEnumT K (tCons te tNil)) (gTup K 2 (gCons (gName a) (gCons (gName b) gNil))) tb E σ H := by
  refine h _ fun v H1 e1 r1 => ?_
  obtain ⟨p, vs, rfl, hs, rl⟩ := r1.tup
  refine ⟨p, vs, rfl, hs, for_enumT (K := K) (a := p) (xs := vs) (Pv H1) (h0 H1 e1) (fun i σ' H' _ z => (hst H1 i σ' H' e1 z).seqT hs) ?_ fun σ2 H2 z => ?_⟩
  · rintro i x T σ2 H2 hx z hT
    obtain ⟨d, hd', rd⟩ := rl.get' hx
    have z2 := hmono H1 i σ2 H2 _ (Same.new (o := .tup [V.int (i : Nat), x]) hT) z
    refine ⟨T, _, rfl, .inl (.inl upd_same), rfl, _, _, rfl, _, _, rfl, rfl, ?_⟩
    exact hb H1 i d x σ2 _ e1 hd' ((rd.mono (hst H1 i σ2 H2 e1 z)).same (Same.new hT)) z2
  · rw [rl.length] at z
    exact hd H1 σ2 H2 e1 z
/-- tuple([e for i in range(n)]), e a number and the heap only grown -/
theorem at_lcR {n : Int} (f : Nat → Int) {r : List V → Hp → VK → Prop} (h : At K tn σ H (.i n)) (h1 : -(2 ^ 62) ≤ n) (h2 : n ≤ 100000)
    (he : ∀ (j : Nat) H2, (j : Int) < n → Same H H2 → At K te ((σ.set a none).set a (some (.int (j : Nat)))) H2 (.i (f j)))
    (hq : r = fun xs H Q => ∃ p ys, xs = [.ref p] ∧ ((SqL K H p ys ∧ ∀ l, H l = none → Q (.ref l) (upd H l (.tup ys))) ∨ (SqT K H p ys ∧ Q (.ref p) H)) := by rfl) :
    At K (tCB r (tCons (tLc (iRng1 (tCons tn tNil)) (gName a) tYes te [a]) tNil)) σ H (.t ((List.range n.toNat).map fun j => .i (f j))) := by
  subst hq
  intro Q q
  refine h _ fun v H1 e1 r1 => ?_
  cases r1.val
  refine ⟨n, rfl, h1, by omega, fun D0 hD => ?_⟩
  refine lc_range (lo := 0) (n := n.toNat) (vs := [a]) (σ := σ) (fun j H' => Same H1 H' ∧ H' D0 = some (.lst ((List.range j).map fun j => V.int (f j))) ∧ j ≤ n.toNat) ⟨same_upd2 (Same.refl _) hD, upd_same, Nat.zero_le _⟩ ?_ ?_
  · rintro j H2 hj ⟨s2, hd2, _⟩
    have e0 : (0 : Int) + (j : Nat) = (j : Nat) := by omega
    rw [e0]
    refine ⟨?_, ?_⟩
    · show ((σ.set a none).set a (some _)).set a none = σ.set a none
      rw [List.set_set, List.set_set]
    · show te ((σ.set a none).set a (some _)) H2 _
      refine he j H2 (by omega) (e1.trans s2) _ fun z H3 e3 r3 => ?_
      cases r3.val
      refine ⟨_, e3 _ _ hd2, ?_, same_upd2 (s2.trans e3) hD, ?_, by omega⟩
      · rw [List.length_map, List.length_range]
        exact Nat.lt_of_lt_of_le (show j < 100000 by omega) (by decide)
      · rw [upd_same, List.range_succ, List.map_append]
        rfl
  · rintro H2 ⟨s2, hd2, _⟩
    refine ⟨D0, _, rfl, .inl ⟨SqL.of hd2, fun l hl => q _ _ ((e1.trans s2).trans (Same.new hl)) (.of upd_same ?_)⟩⟩
    have := RepL.vals (K := K) (H := upd H2 l (.tup ((List.range n.toNat).map fun j => V.int (f j)))) ((List.range n.toNat).map fun j => V.int (f j))
    rw [List.map_map] at this
    exact this
end
end Ww

set_option Elab.async false
set_option linter.all false
set_option maxRecDepth 100000
set_option maxHeartbeats 4000000
/-! W15b: numbers, checks, lengths (printed from W15b.src by gen1.py). -/
namespace Ww
open PySem PySem.Spec PyProof.Rows L2
open C8 (Cal CalAt Met Mak pe_c pe_mk pe_mt pe_mt0)
variable {P : Program} {w : World} {K : PySem.W.Frag} {mg : Str → Option Value} {base : Heap}
def pw (m : Int) : Int := 2 ^ m.toNat
theorem pw_eq (m : Int) : pw m = ((2 ^ m.toNat : Nat) : Int) := by
  unfold pw
  rw [Int.natCast_pow]
  rfl
theorem pw_pos (m : Int) : 0 < pw m := by
  rw [pw_eq]
  exact Int.ofNat_lt.mpr (Nat.pow_pos (by decide))
theorem pw_lt {m : Int} {b : Nat} (h : m.toNat < b) : (pw m).natAbs < 2 ^ b := by
  rw [pw_eq, Int.natAbs_natCast]
  exact Nat.pow_lt_pow_right (by decide) h
theorem pw_div {n m : Int} (h : m.toNat < 9000) : CDivW n (pw m) := wide_div (pw_pos m) (b := 9000) (pw_lt h) (by decide) (by decide)
theorem sc_two_to : FnScope ["many"] ["many"] (defScope s_two_to) := ⟨rfl, rfl, rfl, by decide +kernel, rfl, by decide +kernel, by decide +kernel⟩
theorem cal_two_to (T : Tx w K mg) : Cal P w K mg base 1 "two_to" (PSp K fun ds r => ∃ m : Int, ds = [.i m] ∧ (0 ≤ m ∧ m ≤ 1000) ∧ r = .i (pw m)) [] := by
  obtain ⟨fd, F⟩ := T.defn (d := d_two_to) 28 rfl
  refine ⟨_, fd, ["many"], [], F.ok (k := 0) sc_two_to (fun vs H Q E h => psp_len (n := 1) ?_ h) (fun cdv A outer s H vs Q E hr h => ⟨_, PSs.nox (pss_one (ps_ret (pe_op op_shl pe_int (pv 0)))), psp_of (N := ["many"]) ?_ h⟩), T.glo 28, F.kp, F.bindsN (fun _ _ _ _ _ _ us hl => match us, hl with | [_], _ => rfl), .nil⟩
  · rintro ds r ⟨m, rfl, _⟩
    rfl
  · rintro ds r ⟨m, rfl, ⟨h0, h1⟩, rfl⟩
    exact rs_is (rs_ret (ev_int (n := 1) (m := m) (g := fun i j => .int (i * 2 ^ j.toNat)) ev_c (ev_var rfl) ⟨h0, by omega, by decide⟩)) (congrArg D.i (Int.one_mul _))
/-- x cut k times by W -/
def cutW (W : Int) (x : Int) : Nat → Int
  | 0 => x
  | k + 1 => cutW W x k / W
def wordAt (W x : Int) (k : Nat) : Int := cutW W x k % W
def wordsD (W x n : Int) : D := .t ((List.range n.toNat).map fun k => .i (wordAt W x k))
theorem sc_words_by : FnScope ["worth", "w", "n", "words", "k"] ["worth", "w", "n"] (defScope s_words_by) := ⟨rfl, rfl, rfl, by decide +kernel, rfl, by decide +kernel, by decide +kernel⟩
theorem cal_words_by (T : Tx w K mg) : Cal P w K mg base 2 "words_by" (PSp K fun ds r => ∃ x w n : Int, ds = [.i x, .i w, .i n] ∧ (0 ≤ w ∧ w ≤ 30) ∧ (0 ≤ n ∧ n ≤ 1000) ∧ r = wordsD (pw w) x n) [] := by
  obtain ⟨fd, F⟩ := T.defn (d := d_words_by) 29 rfl
  refine ⟨_, fd, ["worth", "w", "n"], [], F.ok (k := 1) sc_words_by (fun vs H Q E h => psp_len (n := 3) ?_ h) (fun cdv A outer s H vs Q E hr h => ⟨_, PSs.nox (pss_cons (ps_set (i := 3) sc_words_by.nd rfl (Or.inl rfl) (pe_lst pa_nil)) (pss_cons (ps_for PassesOwn.never rfl (pi_range1 rfl (T.free 72) (pa_cons (pv 2) pa_nil)) (pg_name (i := 4) sc_words_by.nd rfl (Or.inl rfl)) (pss_cons (ps_expr (pe_bm PySem.F.plainAttrs_list PySem.F.slot_list_append PySem.F.type_list_append mt_append (pv 3) (pa_cons (pe_op op_mod (pv 0) (pe_c (cal_two_to T) hr (by decide) (by rfl) (pa_cons (pv 1) pa_nil))) pa_nil))) (pss_one (ps_set (i := 0) sc_words_by.nd rfl (Or.inl rfl) (pe_op op_fdivW (pv 0) (pe_c (cal_two_to T) hr (by decide) (by rfl) (pa_cons (pv 1) pa_nil))))))) (pss_one (ps_ret (pe_callTy call_tuple_of (by rfl) (T.free 69) (by decide +kernel) (pa_cons (pv 3) pa_nil)))))), psp_of (N := ["worth", "w", "n", "words", "k"]) ?_ h⟩), T.glo 29, F.kp, F.bindsN (fun _ _ _ _ _ _ us hl => match us, hl with | [_, _, _], _ => rfl), .nil⟩
  · rintro ds r ⟨x, w, n, rfl, _⟩
    rfl
  rintro ds r ⟨x, w, n, rfl, hw, hn, rfl⟩ σ H E F0' q
  have F0 : FrD K H σ [some (.i x), some (.i w), some (.i n), none, none] := F0'
  refine ⟨by decide, fun l hl => ?_⟩
  have s1 : Same H (upd H l (.lst [])) := Same.new hl
  have F1 : FrD K (upd H l (.lst [])) (σ.set 3 (some (.ref l))) [some (.i x), some (.i w), some (.i n), some (.v (.ref l)), none] := (F0.same s1).set (.v (.ref l)) 3
  refine st_forR (n := n) (fun k σ' H' => Bar l (upd H l (.lst [])) H' ∧ H' l = some (.lst ((List.range k).map fun j => V.int (wordAt (pw w) x j))) ∧ FrD K H' σ' [some (.i (cutW (pw w) x k)), some (.i w), some (.i n), some (.v (.ref l)), none])
    (vat F1 2 rfl) (by omega) (by omega) (fun H1 e1 => ⟨Bar.same e1, e1 _ _ upd_same, F1.same e1⟩) ?_ ?_
  · rintro k σ' H' hk ⟨b, h3, F'⟩
    have F2 : FrD K H' (σ'.set 4 (some (.int (k : Nat)))) [some (.i (cutW (pw w) x k)), some (.i w), some (.i n), some (.v (.ref l)), some (.i (k : Nat))] := F'.set (.v _) 4
    refine st_append (R := fun v _ => v = .int (wordAt (pw w) x k)) (vat F2 3 rfl) h3 (by rw [List.length_map, List.length_range]; omega) (fun H2 e2 Q q2 => (at_modI (n := cutW (pw w) x k) (m := pw w) (vat (F2.same e2) 0 rfl) (fun H3 e3 => at_of ((F2.same e2).same e3) (ev_call (ea_cons (ev_var (i := 1) rfl) ea_nil) ⟨w, rfl, ⟨hw.1, by omega⟩, rfl⟩)) (pw_pos w)) _ fun v H3 e3 r3 => q2 v H3 e3 r3.val) fun v H2 e2 r2 => ?_
    subst r2
    have st : Stay H2 (upd H2 l (.lst ((List.range k).map (fun j => V.int (wordAt (pw w) x j)) ++ [V.int (wordAt (pw w) x k)]))) := Stay.upd (e2 _ _ h3) rfl
    have F3 := (F2.same e2).mono st
    refine st_set (d := .i (cutW (pw w) x (k + 1))) (at_divI (n := cutW (pw w) x k) (m := pw w) (vat F3 0 rfl) (fun H3 e3 => at_of (F3.same e3) (ev_call (ea_cons (ev_var (i := 1) rfl) ea_nil) ⟨w, rfl, ⟨hw.1, by omega⟩, rfl⟩)) (pw_div (by omega))) fun v H4 e4 r4 => ?_
    refine ⟨((b.trans (Bar.same e2)).trans Bar.upd).trans (Bar.same e4), e4 _ _ ?_, ((F3.same e4).set r4 0).forget 4⟩
    rw [upd_same, List.range_succ, List.map_append]
    rfl
  · rintro σ' H' ⟨b, h3, F'⟩
    have sH : Same H H' := Bar.out s1 hl b |> fun _ => (fun c o e => b c o (s1 c o e) (ne_of_none e hl))
    refine st_ret (at_tupleOf (ds := (List.range n.toNat).map fun k => .i (wordAt (pw w) x k)) (vat F' 3 rfl) h3 ?_) fun v H4 e4 r4 => q v H4 (sH.trans e4) r4
    have := RepL.vals (K := K) (H := H') ((List.range n.toNat).map fun j => V.int (wordAt (pw w) x j))
    rw [List.map_map] at this
    exact this
/-- the size fits -/
def fits (w n : Int) : Prop := (0 ≤ w ∧ w ≤ 30) ∧ (0 ≤ n ∧ n ≤ 4)
theorem fits_mul {w n : Int} (h : fits w n) : 0 ≤ w * n ∧ w * n ≤ 1000 := by
  obtain ⟨⟨h1, h2⟩, h3, h4⟩ := h
  have a := Int.mul_nonneg h1 h3
  have b : w * n ≤ 30 * n := Int.mul_le_mul_of_nonneg_right h2 h3
  exact ⟨a, by omega⟩
theorem fits_cmul {w n : Int} (h : fits w n) : CMul w n := .inl ⟨by have := h.1.1; omega, by have := h.1.2; omega⟩
theorem ev_size {δ : DS} {tw tn : TE} {w n : Int} {XE : XK} (h : fits w n) (hw : EvD K tw δ (.i w)) (hn : EvD K tn δ (.i n)) : EvD K (tCall (PSp K fun ds r => ∃ m : Int, ds = [.i m] ∧ (0 ≤ m ∧ m ≤ 1000) ∧ r = .i (pw m)) [] XE (tCons (tOp (rI CMul fun i j => .int (i * j)) tw tn) tNil)) δ (.i (pw (w * n))) :=
  ev_call (ea_cons (ev_int (g := fun i j => .int (i * j)) hw hn (fits_cmul h)) ea_nil) ⟨w * n, rfl, fits_mul h, rfl⟩
theorem sc_words_of : FnScope ["worth", "w", "n"] ["worth", "w", "n"] (defScope s_words_of) := ⟨rfl, rfl, rfl, by decide +kernel, rfl, by decide +kernel, by decide +kernel⟩
theorem cal_words_of (T : Tx w K mg) : Cal P w K mg base 3 "words_of" (PSp K fun ds r => ∃ x w n : Int, ds = [.i x, .i w, .i n] ∧ fits w n ∧ (0 ≤ x ∧ x < pw (w * n)) ∧ r = wordsD (pw w) x n) [] := by
  obtain ⟨fd, F⟩ := T.defn (d := d_words_of) 30 rfl
  refine ⟨_, fd, ["worth", "w", "n"], [], F.ok (k := 2) sc_words_of (fun vs H Q E h => psp_len (n := 3) ?_ h) (fun cdv A outer s H vs Q E hr h => ⟨_, PSs.nox (pss_cons (ps_if (PW.pt (pw_or (pt_cmpR op_lt (pv 0) pe_int (nomark _)) (pw_or1 (pt_cmpR op_ge (pv 0) (pe_c (cal_two_to T) hr (by decide) (by rfl) (pa_cons (pe_op op_mul (pv 1) (pv 2)) pa_nil)) (nomark _))))) (pss_one ps_never) pss_nil) (pss_one (ps_ret (pe_c (cal_words_by T) hr (by decide) (by rfl) (pa_cons (pv 0) (pa_cons (pv 1) (pa_cons (pv 2) pa_nil))))))), psp_of (N := ["worth", "w", "n"]) ?_ h⟩), T.glo 30, F.kp, F.bindsN (fun _ _ _ _ _ _ us hl => match us, hl with | [_, _, _], _ => rfl), .nil⟩
  · rintro ds r ⟨x, w, n, rfl, _⟩
    rfl
  rintro ds r ⟨x, w, n, rfl, hf, hx, rfl⟩
  exact rs_skip (et_or (et_test (ev_ltB (b := false) (ev_var (i := 0) rfl) ev_c (decide_eq_false (by omega)))) (et_test (ev_geB (b := false) (ev_var (i := 0) rfl) (ev_size hf (ev_var (i := 1) rfl) (ev_var (i := 2) rfl)) (decide_eq_false (by omega))))) (rs_ret (ev_call (ea_cons (ev_var (i := 0) rfl) (ea_cons (ev_var (i := 1) rfl) (ea_cons (ev_var (i := 2) rfl) ea_nil))) ⟨x, w, n, rfl, hf.1, ⟨hf.2.1, by have := hf.2.2; omega⟩, rfl⟩))
def Deed.one : Deed → Prop
  | .shift _ _ => True
  | _ => False
def goodD (x : Deed) (b : Int) : Prop := x.ok ∧ (x.one → b = 0)
theorem sc_checked : FnScope ["deed", "w", "n", "x", "y"] ["deed", "w", "n", "x", "y"] (defScope s_checked) := ⟨rfl, rfl, rfl, by decide +kernel, rfl, by decide +kernel, by decide +kernel⟩
theorem cal_checked (T : Tx w K mg) : Cal P w K mg base 5 "checked" (PSp K fun ds r => (∃ (x : Deed) (w n a b : Int), ds = [x.d, .i w, .i n, .i a, .i b] ∧ goodD x b ∧ fits w n ∧ (0 ≤ a ∧ a < pw (w * n)) ∧ (0 ≤ b ∧ b < pw (w * n))) ∧ r = .v .non) [] := by
  obtain ⟨fd, F⟩ := T.defn (d := d_checked) 43 rfl
  refine ⟨_, fd, ["deed", "w", "n", "x", "y"], [], F.ok (k := 4) sc_checked (fun vs H Q E h => psp_len (n := 5) ?_ h) (fun cdv A outer s H vs Q E hr h => ⟨_, PSs.nox (pss_cons (ps_expr (pe_c (cal_check_deed T) hr (by decide) (by rfl) (pa_cons (pv 0) pa_nil))) (pss_cons (ps_if (PW.pt (pw_or (pt_not (pt_chain op_le op_lt pe_int (pv 3) (pe_c (cal_two_to T) hr (by decide) (by rfl) (pa_cons (pe_op op_mul (pv 1) (pv 2)) pa_nil)))) (pw_or1 (pt_not (pt_chain op_le op_lt pe_int (pv 4) (pe_c (cal_two_to T) hr (by decide) (by rfl) (pa_cons (pe_op op_mul (pv 1) (pv 2)) pa_nil))))))) (pss_one ps_never) pss_nil) (pss_cons (ps_if (PW.pt (pw_and (pt_cmpR op_notIn_seq (pe_ix ix_tup (pv 0) pe_int (fun _ _ => rfl)) (pe_globR rfl (T.kon 5).1) (by rfl)) (pw_and (pt_cmpR op_notIn_seq (pe_ix ix_tup (pv 0) pe_int (fun _ _ => rfl)) (pe_globR rfl (T.kon 6).1) (by rfl)) (pw_and1 (pt_cmpR op_ne (pv 4) pe_int (nomark _)))))) (pss_one ps_never) pss_nil) (pss_one (ps_if (PW.pt (pw_and (pt_cmpR op_in_seq (pe_ix ix_tup (pv 0) pe_int (fun _ _ => rfl)) (pe_globR rfl (T.kon 6).1) (by rfl)) (pw_and1 (pt_cmpR op_eq (pv 4) pe_int (nomark _))))) (pss_one ps_never) pss_nil))))), psp_ofN (N := ["deed", "w", "n", "x", "y"]) ?_ h⟩), T.glo 43, F.kp, F.bindsN (fun _ _ _ _ _ _ us hl => match us, hl with | [_, _, _, _, _], _ => rfl), .nil⟩
  · rintro ds r ⟨⟨x, w, n, a, b, rfl, _⟩, _⟩
    rfl
  rintro ds r ⟨⟨x, w, n, a, b, rfl, ⟨hx, h1⟩, hf, ha, hb⟩, rfl⟩
  refine ⟨rfl, [some x.d, some (.i w), some (.i n), some (.i a), some (.i b)], ?_⟩
  refine rn_seq (rn_drop (ev_call (ea_cons (ev_var (i := 0) rfl) ea_nil) ⟨⟨x, rfl, hx⟩, rfl⟩)) (rn_seq (rn_skip (et_or (et_not (b := true) (et_test (ev_chain ev_c (ev_var (i := 3) rfl) (ev_size hf (ev_var (i := 1) rfl) (ev_var (i := 2) rfl)) (le_t ha.1) (lt_t ha.2)))) (et_not (b := true) (et_test (ev_chain ev_c (ev_var (i := 4) rfl) (ev_size hf (ev_var (i := 1) rfl) (ev_var (i := 2) rfl)) (le_t hb.1) (lt_t hb.2)))))) ?_)
  cases x with
  | sum => exact rn_seq (rn_skip (et_andF (et_test (ev_inTB (b := false) (xs := [.str "sum", .str "difference", .str "compare", .str "both", .str "any", .str "odd", .str "product", .str "signed product"]) (ev_ixn (ev_var rfl) rfl) (ev_gr (T.kon 5).2) rfl rfl (by decide))))) (rn_skip (et_andF (et_test (ev_inTB (b := false) (xs := [.str "quotient", .str "signed quotient"]) (ev_ixn (ev_var rfl) rfl) (ev_gr (T.kon 6).2) rfl rfl (by decide)))))
  | both => exact rn_seq (rn_skip (et_andF (et_test (ev_inTB (b := false) (xs := [.str "sum", .str "difference", .str "compare", .str "both", .str "any", .str "odd", .str "product", .str "signed product"]) (ev_ixn (ev_var rfl) rfl) (ev_gr (T.kon 5).2) rfl rfl (by decide))))) (rn_skip (et_andF (et_test (ev_inTB (b := false) (xs := [.str "quotient", .str "signed quotient"]) (ev_ixn (ev_var rfl) rfl) (ev_gr (T.kon 6).2) rfl rfl (by decide)))))
  | any => exact rn_seq (rn_skip (et_andF (et_test (ev_inTB (b := false) (xs := [.str "sum", .str "difference", .str "compare", .str "both", .str "any", .str "odd", .str "product", .str "signed product"]) (ev_ixn (ev_var rfl) rfl) (ev_gr (T.kon 5).2) rfl rfl (by decide))))) (rn_skip (et_andF (et_test (ev_inTB (b := false) (xs := [.str "quotient", .str "signed quotient"]) (ev_ixn (ev_var rfl) rfl) (ev_gr (T.kon 6).2) rfl rfl (by decide)))))
  | shift k s =>
    have hb0 : b = 0 := h1 trivial
    subst hb0
    cases k with
    | left => exact rn_seq (rn_skip (et_and (et_test (ev_inTB (b := true) (xs := [.str "sum", .str "difference", .str "compare", .str "both", .str "any", .str "odd", .str "product", .str "signed product"]) (ev_ixn (ev_var rfl) rfl) (ev_gr (T.kon 5).2) rfl rfl (by decide))) (et_and (et_test (ev_inTB (b := true) (xs := [.str "quotient", .str "signed quotient"]) (ev_ixn (ev_var rfl) rfl) (ev_gr (T.kon 6).2) rfl rfl (by decide))) (et_test (ev_neB (b := true) (ev_var rfl) ev_c (by decide)))))) (rn_skip (et_andF (et_test (ev_inTB (b := false) (xs := [.str "quotient", .str "signed quotient"]) (ev_ixn (ev_var rfl) rfl) (ev_gr (T.kon 6).2) rfl rfl (by decide)))))
    | right => exact rn_seq (rn_skip (et_and (et_test (ev_inTB (b := true) (xs := [.str "sum", .str "difference", .str "compare", .str "both", .str "any", .str "odd", .str "product", .str "signed product"]) (ev_ixn (ev_var rfl) rfl) (ev_gr (T.kon 5).2) rfl rfl (by decide))) (et_and (et_test (ev_inTB (b := true) (xs := [.str "quotient", .str "signed quotient"]) (ev_ixn (ev_var rfl) rfl) (ev_gr (T.kon 6).2) rfl rfl (by decide))) (et_test (ev_neB (b := true) (ev_var rfl) ev_c (by decide)))))) (rn_skip (et_andF (et_test (ev_inTB (b := false) (xs := [.str "quotient", .str "signed quotient"]) (ev_ixn (ev_var rfl) rfl) (ev_gr (T.kon 6).2) rfl rfl (by decide)))))
    | down => exact rn_seq (rn_skip (et_and (et_test (ev_inTB (b := true) (xs := [.str "sum", .str "difference", .str "compare", .str "both", .str "any", .str "odd", .str "product", .str "signed product"]) (ev_ixn (ev_var rfl) rfl) (ev_gr (T.kon 5).2) rfl rfl (by decide))) (et_and (et_test (ev_inTB (b := true) (xs := [.str "quotient", .str "signed quotient"]) (ev_ixn (ev_var rfl) rfl) (ev_gr (T.kon 6).2) rfl rfl (by decide))) (et_test (ev_neB (b := true) (ev_var rfl) ev_c (by decide)))))) (rn_skip (et_andF (et_test (ev_inTB (b := false) (xs := [.str "quotient", .str "signed quotient"]) (ev_ixn (ev_var rfl) rfl) (ev_gr (T.kon 6).2) rfl rfl (by decide)))))
    | roll => exact rn_seq (rn_skip (et_and (et_test (ev_inTB (b := true) (xs := [.str "sum", .str "difference", .str "compare", .str "both", .str "any", .str "odd", .str "product", .str "signed product"]) (ev_ixn (ev_var rfl) rfl) (ev_gr (T.kon 5).2) rfl rfl (by decide))) (et_and (et_test (ev_inTB (b := true) (xs := [.str "quotient", .str "signed quotient"]) (ev_ixn (ev_var rfl) rfl) (ev_gr (T.kon 6).2) rfl rfl (by decide))) (et_test (ev_neB (b := true) (ev_var rfl) ev_c (by decide)))))) (rn_skip (et_andF (et_test (ev_inTB (b := false) (xs := [.str "quotient", .str "signed quotient"]) (ev_ixn (ev_var rfl) rfl) (ev_gr (T.kon 6).2) rfl rfl (by decide)))))
theorem sc_lengths_of : FnScope ["deed", "n"] ["deed", "n"] (defScope s_lengths_of) := ⟨rfl, rfl, rfl, by decide +kernel, rfl, by decide +kernel, by decide +kernel⟩
theorem cal_lengths_of (T : Tx w K mg) : Cal P w K mg base 1 "lengths_of" (PSp K fun ds r => ∃ (x : Deed) (n : Int), ds = [x.d, .i n] ∧ r = .t [.i n, .i 0]) [] := by
  obtain ⟨fd, F⟩ := T.defn (d := d_lengths_of) 45 rfl
  refine ⟨_, fd, ["deed", "n"], [], F.ok (k := 0) sc_lengths_of (fun vs H Q E h => psp_len (n := 2) ?_ h) (fun cdv A outer s H vs Q E hr h => ⟨_, PSs.nox (pss_cons (ps_if (pt_cmpR op_eq (pe_ix ix_tup (pv 0) pe_int (fun _ _ => rfl)) pe_str (nomark _)) (pss_one (ps_ret (pe_tup (pa_cons pe_int (pa_cons pe_int pa_nil))))) pss_nil) (pss_cons (ps_if (pt_cmpR op_in_seq (pe_ix ix_tup (pv 0) pe_int (fun _ _ => rfl)) (pe_globR rfl (T.kon 7).1) (by rfl)) (pss_one (ps_ret (pe_tup (pa_cons (pe_op op_mul pe_int (pv 1)) (pa_cons pe_int pa_nil))))) pss_nil) (pss_cons (ps_if (pt_cmpR op_in_seq (pe_ix ix_tup (pv 0) pe_int (fun _ _ => rfl)) (pe_globR rfl (T.kon 8).1) (by rfl)) (pss_one (ps_ret (pe_tup (pa_cons (pv 1) (pa_cons (pv 1) pa_nil))))) pss_nil) (pss_cons (ps_if (pt_cmpR op_eq (pe_ix ix_tup (pv 0) pe_int (fun _ _ => rfl)) pe_str (nomark _)) (pss_one (ps_ret (pe_tup (pa_cons (pe_op op_add (pv 1) (pe_ix ix_tup (pv 0) pe_int (fun _ _ => rfl))) (pa_cons pe_int pa_nil))))) pss_nil) (pss_one (ps_ret (pe_tup (pa_cons (pv 1) (pa_cons pe_int pa_nil))))))))), psp_of (N := ["deed", "n"]) ?_ h⟩), T.glo 45, F.kp, F.bindsN (fun _ _ _ _ _ _ us hl => match us, hl with | [_, _], _ => rfl), .nil⟩
  · rintro ds r ⟨x, n, rfl, _⟩
    rfl
  rintro ds r ⟨x, n, rfl, rfl⟩
  cases x with
  | sum => exact rs_is (rs_skip (et_test (ev_eqB (b := false) (ev_ixn (ev_var rfl) rfl) ev_c (by decide))) (rs_skip (et_test (ev_inTB (b := false) (xs := [.str "product", .str "signed product"]) (ev_ixn (ev_var rfl) rfl) (ev_gr (T.kon 7).2) rfl rfl (by decide))) (rs_skip (et_test (ev_inTB (b := false) (xs := [.str "quotient", .str "signed quotient"]) (ev_ixn (ev_var rfl) rfl) (ev_gr (T.kon 8).2) rfl rfl (by decide))) (rs_skip (et_test (ev_eqB (b := false) (ev_ixn (ev_var rfl) rfl) ev_c (by decide))) (rs_ret (ev_tup (ea_cons (ev_var rfl) (ea_cons ev_c ea_nil)))))))) rfl
  | both => exact rs_is (rs_skip (et_test (ev_eqB (b := false) (ev_ixn (ev_var rfl) rfl) ev_c (by decide))) (rs_skip (et_test (ev_inTB (b := false) (xs := [.str "product", .str "signed product"]) (ev_ixn (ev_var rfl) rfl) (ev_gr (T.kon 7).2) rfl rfl (by decide))) (rs_skip (et_test (ev_inTB (b := false) (xs := [.str "quotient", .str "signed quotient"]) (ev_ixn (ev_var rfl) rfl) (ev_gr (T.kon 8).2) rfl rfl (by decide))) (rs_skip (et_test (ev_eqB (b := false) (ev_ixn (ev_var rfl) rfl) ev_c (by decide))) (rs_ret (ev_tup (ea_cons (ev_var rfl) (ea_cons ev_c ea_nil)))))))) rfl
  | any => exact rs_is (rs_skip (et_test (ev_eqB (b := false) (ev_ixn (ev_var rfl) rfl) ev_c (by decide))) (rs_skip (et_test (ev_inTB (b := false) (xs := [.str "product", .str "signed product"]) (ev_ixn (ev_var rfl) rfl) (ev_gr (T.kon 7).2) rfl rfl (by decide))) (rs_skip (et_test (ev_inTB (b := false) (xs := [.str "quotient", .str "signed quotient"]) (ev_ixn (ev_var rfl) rfl) (ev_gr (T.kon 8).2) rfl rfl (by decide))) (rs_skip (et_test (ev_eqB (b := false) (ev_ixn (ev_var rfl) rfl) ev_c (by decide))) (rs_ret (ev_tup (ea_cons (ev_var rfl) (ea_cons ev_c ea_nil)))))))) rfl
  | shift k s =>
    cases k with
    | left => exact rs_is (rs_skip (et_test (ev_eqB (b := false) (ev_ixn (ev_var rfl) rfl) ev_c (by decide))) (rs_skip (et_test (ev_inTB (b := false) (xs := [.str "product", .str "signed product"]) (ev_ixn (ev_var rfl) rfl) (ev_gr (T.kon 7).2) rfl rfl (by decide))) (rs_skip (et_test (ev_inTB (b := false) (xs := [.str "quotient", .str "signed quotient"]) (ev_ixn (ev_var rfl) rfl) (ev_gr (T.kon 8).2) rfl rfl (by decide))) (rs_skip (et_test (ev_eqB (b := false) (ev_ixn (ev_var rfl) rfl) ev_c (by decide))) (rs_ret (ev_tup (ea_cons (ev_var rfl) (ea_cons ev_c ea_nil)))))))) rfl
    | right => exact rs_is (rs_skip (et_test (ev_eqB (b := false) (ev_ixn (ev_var rfl) rfl) ev_c (by decide))) (rs_skip (et_test (ev_inTB (b := false) (xs := [.str "product", .str "signed product"]) (ev_ixn (ev_var rfl) rfl) (ev_gr (T.kon 7).2) rfl rfl (by decide))) (rs_skip (et_test (ev_inTB (b := false) (xs := [.str "quotient", .str "signed quotient"]) (ev_ixn (ev_var rfl) rfl) (ev_gr (T.kon 8).2) rfl rfl (by decide))) (rs_skip (et_test (ev_eqB (b := false) (ev_ixn (ev_var rfl) rfl) ev_c (by decide))) (rs_ret (ev_tup (ea_cons (ev_var rfl) (ea_cons ev_c ea_nil)))))))) rfl
    | down => exact rs_is (rs_skip (et_test (ev_eqB (b := false) (ev_ixn (ev_var rfl) rfl) ev_c (by decide))) (rs_skip (et_test (ev_inTB (b := false) (xs := [.str "product", .str "signed product"]) (ev_ixn (ev_var rfl) rfl) (ev_gr (T.kon 7).2) rfl rfl (by decide))) (rs_skip (et_test (ev_inTB (b := false) (xs := [.str "quotient", .str "signed quotient"]) (ev_ixn (ev_var rfl) rfl) (ev_gr (T.kon 8).2) rfl rfl (by decide))) (rs_skip (et_test (ev_eqB (b := false) (ev_ixn (ev_var rfl) rfl) ev_c (by decide))) (rs_ret (ev_tup (ea_cons (ev_var rfl) (ea_cons ev_c ea_nil)))))))) rfl
    | roll => exact rs_is (rs_skip (et_test (ev_eqB (b := false) (ev_ixn (ev_var rfl) rfl) ev_c (by decide))) (rs_skip (et_test (ev_inTB (b := false) (xs := [.str "product", .str "signed product"]) (ev_ixn (ev_var rfl) rfl) (ev_gr (T.kon 7).2) rfl rfl (by decide))) (rs_skip (et_test (ev_inTB (b := false) (xs := [.str "quotient", .str "signed quotient"]) (ev_ixn (ev_var rfl) rfl) (ev_gr (T.kon 8).2) rfl rfl (by decide))) (rs_skip (et_test (ev_eqB (b := false) (ev_ixn (ev_var rfl) rfl) ev_c (by decide))) (rs_ret (ev_tup (ea_cons (ev_var rfl) (ea_cons ev_c ea_nil)))))))) rfl
end Ww

set_option Elab.async false
set_option linter.all false
set_option maxRecDepth 100000
set_option maxHeartbeats 4000000
/-! W15c: begun, words_at, ran (printed from W15c.src by gen1.py). -/
namespace Ww
open PySem PySem.Spec PyProof.Rows L2
open C8 (Cal CalAt Met Mak pe_c pe_mk pe_mt pe_mt0)
variable {P : Program} {w : World} {K : PySem.W.Frag} {mg : Str → Option Value} {base : Heap}
def putWords (f : Str → Int → Int) (l : Str) (ws : Nat → Int) : Nat → (Str → Int → Int)
  | 0 => f
  | k + 1 => putf (putWords f l ws k) l k (ws k)
def zeroF : Str → Int → Int := fun _ _ => 0
def fillS (W n x : Int) (l : Str) (s : MS) : MS := { s with f := putWords s.f l (wordAt W x) n.toNat }
def beginS (W n x y : Int) : MS := fillS W n y "b" (fillS W n x "a" ⟨zeroF, 0⟩)
theorem word_in {W x : Int} {k : Nat} (h : 0 < W) : 0 ≤ wordAt W x k ∧ wordAt W x k < W := ⟨Int.emod_nonneg _ (by omega), Int.emod_lt_of_pos _ h⟩
def BegunSp (K : PySem.W.Frag) : Sp := fun vs H Q _ => ∃ (w n x y : Int), vs = [.int w, .int n, .int x, .int y] ∧ fits w n ∧ (0 ≤ x ∧ x < pw (w * n)) ∧ (0 ≤ y ∧ y < pw (w * n)) ∧ ∀ p h H', H p = none → H h = none → Same H H' → MAt K H' p h (pw w) (beginS (pw w) n x y) 100 → Q (.ref p) H'
theorem st_fill (T : Tx w K mg) {base : Heap} {P : Program} {w n z x0 y0 : Int} {l : Lt} {σ : L2.St} {H : Hp} {E : Ends} {p h : Addr} {s : MS} {m : Nat} {tc : TE} {XE : XK} (hf : fits w n) (hz : 0 ≤ z ∧ z < pw (w * n)) (u : MAt K H p h (pw w) s m) (hm : m < 1000) {δ : DS}
    (F : FrD K H σ [some (.i w), some (.i n), some (.i x0), some (.i y0), some (.v (.ref p)), some (.s l.str), some (.i z), none, none])
    (q : ∀ σ' H', Bar2 p h H H' → MAt K H' p h (pw w) (fillS (pw w) n z l.str s) (m + 4) → FrD K H' σ' [some (.i w), some (.i n), some (.i x0), some (.i y0), some (.v (.ref p)), none, none, none, none] → E.nx σ' H') :
    tFor (iEnumT K (tCons (tCall (PSp K fun ds r => ∃ x w n : Int, ds = [.i x, .i w, .i n] ∧ fits w n ∧ (0 ≤ x ∧ x < pw (w * n)) ∧ r = wordsD (pw w) x n) [] XE (tCons (tVar 6) (tCons (tVar 0) (tCons (tVar 1) tNil)))) tNil)) (gTup K 2 (gCons (gName 7) (gCons (gName 8) gNil)))
      (tDrop (tMeth (MC K) "put" (ActSp K putWA) [] E0 (tVar 4) (tCons (tVar 5) (tCons (tVar 7) (tCons (tVar 8) tNil))))) E σ H := by
  have hn4 : n.toNat ≤ 4 := by have := hf.2.2; omega
  refine st_enumT (ds := (List.range n.toNat).map fun k => .i (wordAt (pw w) z k)) (fun H1 k σ' H' => Bar2 p h H1 H' ∧ (k ≤ 4 → MAt K H' p h (pw w) { s with f := putWords s.f l.str (wordAt (pw w) z) k } (m + k)) ∧ Stay H1 H' ∧ FrD K H' σ' [some (.i w), some (.i n), some (.i x0), some (.i y0), some (.v (.ref p)), some (.s l.str), some (.i z), none, none])
    (at_of F (ev_call (ea_cons (ev_var (i := 6) rfl) (ea_cons (ev_var (i := 0) rfl) (ea_cons (ev_var (i := 1) rfl) ea_nil))) ⟨z, w, n, rfl, hf, hz, rfl⟩)) (fun H1 e1 => ⟨Bar2.refl _ _ _, fun _ => u.same e1, Stay.refl _, F.same e1⟩) (fun H1 k σ' H' e1 z => z.2.2.1)
    (fun H1 k σ' H' H'' e z => ⟨z.1.trans (Bar2.same e), fun hk => (z.2.1 hk).same e, z.2.2.1.trans (Stay.same e), z.2.2.2.same e⟩) ?_ ?_
  · rintro H1 k d v σ' H' e1 hd rd ⟨b, u', st, F'⟩
    rw [List.getElem?_map] at hd
    obtain ⟨j, hj, rfl⟩ := Option.map_eq_some_iff.mp hd
    have hkn : k < n.toNat := by
      have := (List.getElem?_eq_some_iff.mp hj).1
      rw [List.length_range] at this
      exact this
    rw [List.getElem?_range hkn] at hj
    cases hj
    have uk := u' (by omega)
    have F2 : FrD K H' ((σ'.set 7 (some (.int (k : Nat)))).set 8 (some v)) [some (.i w), some (.i n), some (.i x0), some (.i y0), some (.v (.ref p)), some (.s l.str), some (.i z), some (.i (k : Nat)), some (.i (wordAt (pw w) z k))] := (F'.set (.v _) 7).set rd 8
    refine st_act (s := { s with f := putWords s.f l.str (wordAt (pw w) z) k }) (ds := [.s l.str, .i (k : Nat), .i (wordAt (pw w) z k)]) (by decide) (vat F2 4 rfl) uk (by omega) (fun H2 e2 => ata_of (F2.same e2) (ea_cons (ev_var (i := 5) rfl) (ea_cons (ev_var (i := 7) rfl) (ea_cons (ev_var (i := 8) rfl) ea_nil))))
      (fun vs H2 e2 rl => ⟨l, (k : Nat), wordAt (pw w) z k, RepL.vals_eq (xs := [.str l.str, .int (k : Nat), .int (wordAt (pw w) z k)]) rl, ⟨by omega, by omega⟩, (word_in (pw_pos w)).1, (word_in (pw_pos w)).2, rfl⟩) fun H2 u2 b2 => ?_
    exact ⟨b.trans b2, fun _ => u2, st.trans (uk.stay b2), ((F2.mono (uk.stay b2)).forget 7).forget 8⟩
  · rintro H1 σ' H' e1 ⟨b, u', st, F'⟩
    rw [List.length_map, List.length_range] at u'
    exact q σ' H' ((Bar2.same e1).trans b) ((u' hn4).up (by omega)) ((F'.forget 5).forget 6)
theorem sc_begun : FnScope ["w", "n", "x", "y", "machine", "letter", "worth", "at", "word"] ["w", "n", "x", "y"] (defScope s_begun) := ⟨rfl, rfl, rfl, by decide +kernel, rfl, by decide +kernel, by decide +kernel⟩
theorem cal_begun (T : Tx w K mg) : Cal P w K mg base 5 "begun" (BegunSp K) [] := by
  obtain ⟨fd, F⟩ := T.defn (d := d_begun) 44 rfl
  refine ⟨_, fd, ["w", "n", "x", "y"], [], F.ok (k := 4) sc_begun (fun vs H Q E h => ?_) (fun cdv A outer s H vs Q E hr h => ⟨_, PSs.nox (pss_cons (ps_set (i := 4) sc_begun.nd rfl (Or.inl rfl) (pe_mk (mak_Machine T) hr (by decide) (by rfl) (pa_cons (pv 0) pa_nil))) (pss_cons (ps_for PassesOwn.never rfl (pi_tup (pe_tup (pa_cons (pe_tup (pa_cons pe_str (pa_cons (pv 2) pa_nil))) (pa_cons (pe_tup (pa_cons pe_str (pa_cons (pv 3) pa_nil))) pa_nil)))) (pg_tup rfl (pgs_cons (pg_name (i := 5) sc_begun.nd rfl (Or.inl rfl)) (pgs_cons (pg_name (i := 6) sc_begun.nd rfl (Or.inl rfl)) pgs_nil))) (pss_one (ps_for PassesOwn.never rfl (pi_enumT rfl (T.free 73) (pa_cons (pe_c (cal_words_of T) hr (by decide) (by rfl) (pa_cons (pv 6) (pa_cons (pv 0) (pa_cons (pv 1) pa_nil)))) pa_nil)) (pg_tup rfl (pgs_cons (pg_name (i := 7) sc_begun.nd rfl (Or.inl rfl)) (pgs_cons (pg_name (i := 8) sc_begun.nd rfl (Or.inl rfl)) pgs_nil))) (pss_one (ps_expr (pe_mt (met_M_put T) hr (by decide) (pv 4) (pa_cons (pv 5) (pa_cons (pv 7) (pa_cons (pv 8) pa_nil))))))))) (pss_one (ps_ret (pv 4))))), ?_⟩), T.glo 44, F.kp, F.bindsN (fun _ _ _ _ _ _ us hl => match us, hl with | [_, _, _, _], _ => rfl), .nil⟩
  · obtain ⟨w, n, x, y, rfl, _⟩ := h
    rfl
  obtain ⟨w, n, x, y, rfl, hf, hx, hy, q⟩ := h
  have F0 : FrD K H (L2.start ["w", "n", "x", "y", "machine", "letter", "worth", "at", "word"] [.int w, .int n, .int x, .int y]) [some (.i w), some (.i n), some (.i x), some (.i y), none, none, none, none, none] := FrD.start (N := ["w", "n", "x", "y", "machine", "letter", "worth", "at", "word"]) (RepL.vals _)
  refine st_make (ata_of F0 (ea_cons (ev_var (i := 0) rfl) ea_nil)) fun vs H2 p dx e2 r2 hp hd hne => ?_
  have evs : vs = [.int w] := RepL.vals_eq (xs := [.int w]) r2
  subst evs
  have s2 : Same H2 (upd (upd H2 dx (.own p)) p (.ins (MC K) dx [])) := same2 hp hd
  refine ⟨p, dx, w, rfl, hf.1, upd_same, fun h H3 hl b3 u3 => ⟨rfl, ?_⟩⟩
  have hl2 : H2 h = none := by
    cases e : H2 h with
    | none => rfl
    | some o =>
      have a : some o = none := (s2 _ _ e).symm.trans hl
      cases a
  have s3 : Same H2 H3 := fun a o e => b3 a o (s2 a o e) (ne_of_none e hp) (ne_of_none e hl2)
  have hpH : H p = none := e2.free hp
  have hhH : H h = none := e2.free hl2
  have F3 : FrD K H3 ((L2.start ["w", "n", "x", "y", "machine", "letter", "worth", "at", "word"] [.int w, .int n, .int x, .int y]).set 4 (some (.ref p))) [some (.i w), some (.i n), some (.i x), some (.i y), some (.v (.ref p)), none, none, none, none] := ((F0.same e2).same s3).set (.v _) 4
  have u3' : MAt K H3 p h (pw w) ⟨zeroF, 0⟩ 0 := u3
  refine st_forP (ps := [(.s "a", .i x), (.s "b", .i y)]) (fun H4 i σ' H' => Bar2 p h H4 H' ∧ Stay H4 H' ∧ FrD K H' σ' [some (.i w), some (.i n), some (.i x), some (.i y), some (.v (.ref p)), none, none, none, none] ∧
      (i = 0 → MAt K H' p h (pw w) ⟨zeroF, 0⟩ 0) ∧ (i = 1 → MAt K H' p h (pw w) (fillS (pw w) n x "a" ⟨zeroF, 0⟩) 4) ∧ (i = 2 → MAt K H' p h (pw w) (beginS (pw w) n x y) 8))
    (at_of F3 (ev_tup (ea_cons (ev_tup (ea_cons ev_c (ea_cons (ev_var (i := 2) rfl) ea_nil))) (ea_cons (ev_tup (ea_cons ev_c (ea_cons (ev_var (i := 3) rfl) ea_nil))) ea_nil))))
    (fun H4 e4 => ⟨Bar2.refl _ _ _, Stay.refl _, F3.same e4, fun _ => u3'.same e4, fun h => absurd h (by decide), fun h => absurd h (by decide)⟩) (fun H4 i σ' H' e4 z => z.2.1) ?_ ?_
  · rintro H4 i pp v u σ' H' e4 hi rv ru ⟨b, st, F', u0, u1, u2⟩
    match i, hi with
    | 0, hi =>
      have e : pp = (.s "a", .i x) := (Option.some.inj hi).symm
      subst e
      have F5 : FrD K H' ((σ'.set 5 (some v)).set 6 (some u)) [some (.i w), some (.i n), some (.i x), some (.i y), some (.v (.ref p)), some (.s Lt.a.str), some (.i x), none, none] := (F'.set rv 5).set ru 6
      refine st_fill T (P := P) (base := base) (m := 0) (l := .a) (δ := []) (tc := tVar 0) hf hx (u0 rfl) (by decide) F5 fun σ2 H5 b5 u5 F6 => ?_
      exact ⟨b.trans b5, st.trans ((u0 rfl).stay b5), F6, fun h => absurd h (by decide), fun _ => u5, fun h => absurd h (by decide)⟩
    | 1, hi =>
      have e : pp = (.s "b", .i y) := (Option.some.inj hi).symm
      subst e
      have F5 : FrD K H' ((σ'.set 5 (some v)).set 6 (some u)) [some (.i w), some (.i n), some (.i x), some (.i y), some (.v (.ref p)), some (.s Lt.b.str), some (.i y), none, none] := (F'.set rv 5).set ru 6
      refine st_fill T (P := P) (base := base) (m := 4) (l := .b) (δ := []) (tc := tVar 0) hf hy (u1 rfl) (by decide) F5 fun σ2 H5 b5 u5 F6 => ?_
      exact ⟨b.trans b5, st.trans ((u1 rfl).stay b5), F6, fun h => absurd h (by decide), fun h => absurd h (by decide), fun _ => u5⟩
    | i + 2, hi => cases hi
  · rintro H4 σ' H' e4 ⟨b, st, F', u0, u1, u2⟩
    refine vat F' 4 rfl _ fun v H5 e5 r5 => ?_
    cases r5.val
    refine q p h H5 hpH hhH ?_ (((u2 rfl).same e5).up (by decide))
    exact fun a o e => e5 _ _ (b a o (e4 _ _ (s3 _ _ (e2 _ _ e))) (ne_of_none e hpH) (ne_of_none e hhH))
end Ww

set_option Elab.async false
set_option linter.all false
set_option maxRecDepth 100000
set_option maxHeartbeats 4000000
/-! W15d: words_at, ran (printed from W15d.src by gen1.py). -/
namespace Ww
open PySem PySem.Spec PyProof.Rows L2
open C8 (Cal CalAt Met Mak pe_c pe_mk pe_mt pe_mt0)
variable {P : Program} {w : World} {K : PySem.W.Frag} {mg : Str → Option Value} {base : Heap}
def WordsSp (K : PySem.W.Frag) : Sp := fun vs H Q _ => ∃ p h W s m, ∃ (l : Str) (k : Int), vs = [.ref p, .str l, .int k] ∧ MAt K H p h W s m ∧ (0 ≤ k ∧ k ≤ 100) ∧ (k = 0 ∨ ∃ t : Lt, l = t.str) ∧ ∀ v H', Same H H' → Rep K H' v (.t ((List.range k.toNat).map fun j => .i (s.f l (j : Nat)))) → Q v H'
theorem sc_words_at : FnScope ["machine", "letter", "many", "at"] ["machine", "letter", "many"] (defScope s_words_at) := ⟨rfl, rfl, rfl, by decide +kernel, rfl, by decide +kernel, by decide +kernel⟩
theorem cal_words_at (T : Tx w K mg) : Cal P w K mg base 5 "words_at" (WordsSp K) [] := by
  obtain ⟨fd, F⟩ := T.defn (d := d_words_at) 46 rfl
  refine ⟨_, fd, ["machine", "letter", "many"], [], F.ok (k := 4) sc_words_at (fun vs H Q E h => ?_) (fun cdv A outer s H vs Q E hr h => ⟨_, PSs.nox (pss_one (ps_ret (pe_callTy call_tuple_of (by rfl) (T.free 69) (by decide +kernel) (pa_cons (pe_lc (own := [("at", 3)]) (g := gName 3) (tt := tYes) rfl sc_words_at.nd (pi_range1 rfl (T.free 72) (pa_cons (pv 2) pa_nil)) (blkOk_by (N := ["machine", "letter", "many", "at"]) (sc := defScope s_words_at) (by decide +kernel)) (fun _ _ _ _ _ => pg_name (i := 3) sc_words_at.nd rfl (Or.inl rfl)) (fun _ _ _ _ _ => pts_nil) (fun _ _ _ _ _ => (pe_mt (met_M_word T) hr (by decide) (pv 0) (pa_cons (pv 1) (pa_cons (pv 3) pa_nil))))) pa_nil)))), ?_⟩), T.glo 46, F.kp, F.bindsN (fun _ _ _ _ _ _ us hl => match us, hl with | [_, _, _], _ => rfl), .nil⟩
  · obtain ⟨p, h, W, s, m, l, k, rfl, _⟩ := h
    rfl
  obtain ⟨p, h, W, s, m, l, k, rfl, u, hk, hl, q⟩ := h
  have F0 : FrD K H (L2.start ["machine", "letter", "many", "at"] [.ref p, .str l, .int k]) [some (.v (.ref p)), some (.s l), some (.i k), none] := FrD.start (N := ["machine", "letter", "many", "at"]) (RepL.vals _)
  refine st_ret (at_lcR (fun j => s.f l (j : Nat)) (vat F0 2 rfl) (by omega) (by omega) fun j H2 hj e2 => ?_) fun v H2 e2 r2 => q v H2 e2 r2
  have F1 : FrD K H2 (((L2.start ["machine", "letter", "many", "at"] [.ref p, .str l, .int k]).set 3 none).set 3 (some (.int (j : Nat)))) [some (.v (.ref p)), some (.s l), some (.i k), some (.i (j : Nat))] := ((F0.same e2).setNone 3).set (.v _) 3
  have u2 := u.same e2
  obtain ⟨dx, e⟩ := u2.o
  rcases hl with hl | ⟨t, rfl⟩
  · omega
  intro Q k2
  refine vat F1 0 rfl _ fun x H3 e3 r3 => ?_
  cases r3.val
  refine ⟨p, dx, _, rfl, e3 _ _ e, look_m "word" (by decide), ata_of (F1.same e3) (ea_cons (ev_var (i := 1) rfl) (ea_cons (ev_var (i := 3) rfl) ea_nil)) _ fun vs H4 e4 rl => ?_⟩
  have evs : vs = [.str t.str, .int (j : Nat)] := RepL.vals_eq (xs := [.str t.str, .int (j : Nat)]) rl
  subst evs
  exact ⟨p, h, W, s, m, t, (j : Nat), rfl, u2.same (e3.trans e4), ⟨by omega, by omega⟩, fun H' e' => k2 _ H' ((e3.trans e4).trans e') (.v _)⟩
theorem at_words {σ : L2.St} {H : Hp} {δ : DS} {p h : Addr} {W : Int} {s : MS} {m : Nat} {l : Str} {k : Int} {tk : TE} {XE : XK} {i : Nat} (F : FrD K H σ δ) (hi : δ[i]? = some (some (.v (.ref p)))) (hk : EvD K tk δ (.i k)) (u : MAt K H p h W s m) (h1 : 0 ≤ k ∧ k ≤ 100) (h2 : k = 0 ∨ ∃ t : Lt, l = t.str) :
    At K (tCall (WordsSp K) [] XE (tCons (tVar i) (tCons (tC (.str l)) (tCons tk tNil)))) σ H (.t ((List.range k.toNat).map fun j => .i (s.f l (j : Nat)))) := fun Q q =>
  ata_of F (ea_cons (ev_var hi) (ea_cons ev_c (ea_cons hk ea_nil))) _ fun vs H2 e2 rl => by
    have evs : vs = [.ref p, .str l, .int k] := RepL.vals_eq (xs := [.ref p, .str l, .int k]) rl
    subst evs
    rw [List.append_nil]
    exact ⟨p, h, W, s, m, l, k, rfl, u.same e2, h1, h2, fun v H' e' r' => q v H' (e2.trans e') r'⟩
/-- a, b = t -/
theorem st_asg2 {σ : L2.St} {H : Hp} {E : Ends} {te : TE} {d1 d2 : D} {a b : Nat} (h : At K te σ H (.t [d1, d2])) (q : ∀ v u H2, Same H H2 → Rep K H2 v d1 → Rep K H2 u d2 → E.nx ((σ.set a (some v)).set b (some u)) H2) : tAsg te (gTup K 2 (gCons (gName a) (gCons (gName b) gNil))) E σ H :=
  h _ fun v H1 e1 r1 => by
    obtain ⟨p, us, rfl, hq, rq⟩ := r1.tup
    cases rq with
    | cons r1 rq =>
      cases rq with
      | cons r2 rq =>
        cases rq
        exact ⟨p, _, rfl, hq, rfl, _, _, rfl, _, _, rfl, rfl, q _ _ H1 e1 r1 r2⟩
section
variable {σ : L2.St} {H : Hp} {E : Ends} {sp : Sp} {XE : XK} {t : TA} {ds : List D} {i : Nat}
theorem st_callQ (ha : AtA K t σ H ds) (q : ∀ vs H2, Same H H2 → RepL K H2 vs ds → sp vs H2 (fun v H3 => E.nx (σ.set i (some v)) H3) XE) : tAsg (tCall sp [] XE t) (gName i) E σ H :=
  ha _ fun vs H2 e2 rl => by
    rw [List.append_nil]
    exact q vs H2 e2 rl
theorem st_methQ {ta : TE} {p C dx : Addr} {fs : List (Str × V)} {m : Str} (ha : At K ta σ H (.v (.ref p))) (ho : H p = some (.ins C dx fs)) (hl : fs.lookup m = none) (q : ∀ H2, Same H H2 → t σ H2 (fun vs H3 => sp (.ref p :: vs) H3 (fun _ H4 => E.nx σ H4) XE)) : tDrop (tMeth C m sp [] XE ta t) E σ H :=
  ha _ fun x H1 e1 r1 => by
    cases r1.val
    have h := q H1 e1
    refine ⟨p, dx, fs, rfl, e1 _ _ ho, hl, ?_⟩
    simp only [List.append_nil]
    exact h
theorem args_callQ {Q : List V → Hp → Prop} (ha : AtA K t σ H ds) (q : ∀ vs H2, Same H H2 → RepL K H2 vs ds → sp vs H2 (fun v H3 => Q [v] H3) XE) : tCons (tCall sp [] XE t) tNil σ H Q :=
  ha _ fun vs H2 e2 rl => by
    rw [List.append_nil]
    exact q vs H2 e2 rl
end
/-- a telling that the unroller takes -/
def tellOk (w n : Int) (t : Tell) : Prop := (t.length ≤ 100000 ∧ ∀ p ∈ t, P2.ok p ∧ few2 p) ∧ Good (unroll w n t) ∧ (t.map (cnt2 w n)).sum ≤ 4000
def ranS (d : Deed) (w n x y : Int) : MS := runRows (pw w) (beginS (pw w) n x y) (unroll w n d.tell)
def ranD (d : Deed) (w n x y : Int) : D := .t [.t ((List.range n.toNat).map fun j => .i ((ranS d w n x y).f "c" (j : Nat))), .t [], .t ((List.range 4).map fun j => .i ((ranS d w n x y).f "m" (j : Nat)))]
def ranA (ds : List D) (r : D) : Prop := ∃ (d : Deed) (w n x y : Int), ds = [d.d, .i w, .i n, .i x, .i y] ∧ goodD d y ∧ fits w n ∧ (0 ≤ x ∧ x < pw (w * n)) ∧ (0 ≤ y ∧ y < pw (w * n)) ∧ tellOk w n d.tell ∧ r = ranD d w n x y
theorem sc_ran : FnScope ["deed", "w", "n", "x", "y", "machine", "answer", "rest"] ["deed", "w", "n", "x", "y"] (defScope s_ran) := ⟨rfl, rfl, rfl, by decide +kernel, rfl, by decide +kernel, by decide +kernel⟩
theorem cal_ran (T : Tx w K mg) : Cal P w K mg base 13 "ran" (PSp K ranA) [] := by
  obtain ⟨fd, F⟩ := T.defn (d := d_ran) 47 rfl
  refine ⟨_, fd, ["deed", "w", "n", "x", "y"], [], F.ok (k := 12) sc_ran (fun vs H Q E h => psp_len (n := 5) ?_ h) (fun cdv A outer s H vs Q E hr h => ⟨_, PSs.nox (pss_cons (ps_expr (pe_c (cal_checked T) hr (by decide) (by rfl) (pa_cons (pv 0) (pa_cons (pv 1) (pa_cons (pv 2) (pa_cons (pv 3) (pa_cons (pv 4) pa_nil))))))) (pss_cons (ps_set (i := 5) sc_ran.nd rfl (Or.inl rfl) (pe_c (cal_begun T) hr (by decide) (by rfl) (pa_cons (pv 1) (pa_cons (pv 2) (pa_cons (pv 3) (pa_cons (pv 4) pa_nil)))))) (pss_cons (ps_expr (pe_mt (met_M_run T) hr (by decide) (pv 5) (pa_cons (pe_c (cal_unrolled T) hr (by decide) (by rfl) (pa_cons (pe_c (cal_telling T) hr (by decide) (by rfl) (pa_cons (pv 0) pa_nil)) (pa_cons (pv 1) (pa_cons (pv 2) pa_nil)))) pa_nil))) (pss_cons (ps_asg (pe_c (cal_lengths_of T) hr (by decide) (by rfl) (pa_cons (pv 0) (pa_cons (pv 2) pa_nil))) (pg_tup rfl (pgs_cons (pg_name (i := 6) sc_ran.nd rfl (Or.inl rfl)) (pgs_cons (pg_name (i := 7) sc_ran.nd rfl (Or.inl rfl)) pgs_nil)))) (pss_one (ps_ret (pe_tup (pa_cons (pe_c (cal_words_at T) hr (by decide) (by rfl) (pa_cons (pv 5) (pa_cons pe_str (pa_cons (pv 6) pa_nil)))) (pa_cons (pe_c (cal_words_at T) hr (by decide) (by rfl) (pa_cons (pv 5) (pa_cons pe_str (pa_cons (pv 7) pa_nil)))) (pa_cons (pe_c (cal_words_at T) hr (by decide) (by rfl) (pa_cons (pv 5) (pa_cons pe_str (pa_cons pe_int pa_nil)))) pa_nil)))))))))), psp_of (N := ["deed", "w", "n", "x", "y", "machine", "answer", "rest"]) ?_ h⟩), T.glo 47, F.kp, F.bindsN (fun _ _ _ _ _ _ us hl => match us, hl with | [_, _, _, _, _], _ => rfl), .nil⟩
  · rintro ds r ⟨d, w, n, x, y, rfl, _⟩
    rfl
  rintro ds r ⟨d, w, n, x, y, rfl, hd, hf, hx, hy, ht, rfl⟩ σ H E F0' q
  have F0 : FrD K H σ [some d.d, some (.i w), some (.i n), some (.i x), some (.i y), none, none, none] := F0'
  refine st_drop (at_of F0 (ev_call (ea_cons (ev_var (i := 0) rfl) (ea_cons (ev_var (i := 1) rfl) (ea_cons (ev_var (i := 2) rfl) (ea_cons (ev_var (i := 3) rfl) (ea_cons (ev_var (i := 4) rfl) ea_nil))))) ⟨⟨d, w, n, x, y, rfl, hd, hf, hx, hy⟩, rfl⟩)) fun H1 e1 => ?_
  have F1 := F0.same e1
  refine st_callQ (ata_of F1 (ea_cons (ev_var (i := 1) rfl) (ea_cons (ev_var (i := 2) rfl) (ea_cons (ev_var (i := 3) rfl) (ea_cons (ev_var (i := 4) rfl) ea_nil))))) fun vs H2 e2 rl => ?_
  have evs : vs = [.int w, .int n, .int x, .int y] := RepL.vals_eq (xs := [.int w, .int n, .int x, .int y]) rl
  subst evs
  refine ⟨w, n, x, y, rfl, hf, hx, hy, fun p h H3 hp hh e3 u3 => ?_⟩
  have F3 : FrD K H3 (σ.set 5 (some (.ref p))) [some d.d, some (.i w), some (.i n), some (.i x), some (.i y), some (.v (.ref p)), none, none] := ((F1.same e2).same e3).set (.v _) 5
  obtain ⟨dx, e⟩ := u3.o
  refine st_methQ (vat F3 5 rfl) e (look_m "run" (by decide)) fun H4 e4 => ?_
  refine args_callQ (ata_of (F3.same e4) (ea_cons (ev_call (ea_cons (ev_var (i := 0) rfl) ea_nil) ⟨d, rfl, hd.1, rfl⟩) (ea_cons (ev_var (i := 1) rfl) (ea_cons (ev_var (i := 2) rfl) ea_nil)))) fun vs H5 e5 rl => ?_
  refine ⟨d.tell, w, n, rl, ht.1, hf.2, ht.2.1, ht.2.2, fun v H6 e6 rx => ?_⟩
  have e36 := e4.trans (e5.trans e6)
  have u6 := u3.same e36
  refine ⟨p, h, pw w, _, 100, v, _, rfl, u6, rx, by have := ht.2.1.1; omega, ht.2.1.2, fun H7 b7 u7 => ?_⟩
  have F7 := (F3.same e36).mono (u6.stay b7)
  have sH : Same H H7 := fun a o e => by
    have e2' := e2 _ _ (e1 _ _ e)
    exact b7 _ _ (e36 _ _ (e3 _ _ e2')) (ne_of_none e2' hp) (ne_of_none e2' hh)
  refine st_asg2 (d1 := .i n) (d2 := .i 0) (at_of F7 (ev_call (ea_cons (ev_var (i := 0) rfl) (ea_cons (ev_var (i := 2) rfl) ea_nil)) ⟨d, n, rfl, rfl⟩)) fun v1 v2 H8 e8 r1 r2 => ?_
  have F8 : FrD K H8 (((σ.set 5 (some (.ref p))).set 6 (some v1)).set 7 (some v2)) [some d.d, some (.i w), some (.i n), some (.i x), some (.i y), some (.v (.ref p)), some (.i n), some (.i 0)] := ((F7.same e8).set r1 6).set r2 7
  have u8 := u7.same e8
  have hn0 := hf.2.1
  have hn4 := hf.2.2
  refine st_ret (at_tup (ds := [_, _, _]) (ata_cons (at_words F8 (i := 5) rfl (ev_var (i := 6) rfl) u8 ⟨hn0, by omega⟩ (.inr ⟨.c, rfl⟩)) fun H9 e9 => ata_cons (at_words (F8.same e9) (i := 5) rfl (ev_var (i := 7) rfl) (u8.same e9) ⟨by decide, by decide⟩ (.inl rfl)) fun H10 e10 => ata_cons (at_words ((F8.same e9).same e10) (i := 5) rfl ev_c ((u8.same e9).same e10) ⟨by decide, by decide⟩ (.inr ⟨.m, rfl⟩)) fun _ _ => ata_nil) (by show 3 ≤ 100000; decide)) fun v H9 e9 r9 => ?_
  exact q v H9 (sH.trans (e8.trans e9)) r9
end Ww

set_option Elab.async false
set_option linter.all false
set_option maxRecDepth 100000
set_option maxHeartbeats 4000000
/-! W16a: the law's own state (printed from W16a.src by gen1.py). -/
namespace Ww
open PySem PySem.Spec PyProof.Rows L2
open C8 (Cal CalAt Met Mak pe_c pe_mk pe_mt pe_mt0)
variable {P : Program} {w : World} {K : PySem.W.Frag} {mg : Str → Option Value} {base : Heap}
section
variable {σ : L2.St} {δ : DS} {H H2 H' : Hp} {te ta tb : TE} {tt tu : TT} {E : Ends} {S cp : Addr} {cells : List Int} {a l : Int} {b c : Bool} {i : Nat} {x y : V} {XE : XK} {n m : Int}
theorem at_powI (ha : At K ta σ H (.i n)) (hb : ∀ H2, Same H H2 → At K tb σ H2 (.i m)) (hc : CPow n m) : At K (tOp (rI CPow fun i j => .int (i ^ j.toNat)) ta tb) σ H (.i (n ^ m.toNat)) := at_int (g := fun i j => .int (i ^ j.toNat)) ha hb hc
theorem at_orV (ha : At K ta σ H (.b b)) (hb : ∀ H2, Same H H2 → At K tb σ H2 (.b c)) : At K (tOrV ta tb) σ H (.b (b || c)) := fun Q q => ha _ fun v H1 e1 r1 => by
  cases r1.val
  cases b with
  | true => exact ⟨true, rfl, iteT (q _ H1 e1 (.v _))⟩
  | false => exact ⟨false, rfl, iteF (hb H1 e1 _ fun v H2 e2 r2 => q v H2 (e1.trans e2) r2)⟩
theorem att_andV (h : AtT tt σ H b) (h2 : ∀ H2, Same H H2 → AtT tu σ H2 c) : AtT (tAnd tt tu) σ H (b && c) := by
  cases b with
  | true => exact att_and h h2
  | false => exact att_andF h
theorem att_orV (h : AtT tt σ H b) (h2 : ∀ H2, Same H H2 → AtT tu σ H2 c) : AtT (tOr tt tu) σ H (b || c) := by
  cases b with
  | true => exact att_orT h
  | false => exact att_or h h2
/-- the law's state -/
structure StX (H : Hp) (S cp : Addr) (cells : List Int) (a l : Int) (b : Bool) : Prop where
  s : H S = some (.lst [.ref cp, .int a, .int l, .bl b])
  c : H cp = some (.lst (cells.map V.int))
  n : cp ≠ S
  z : cells.length ≤ 100000
def StAt (H : Hp) (S : Addr) : Prop := ∃ cp cells a l b, StX H S cp cells a l b
theorem StX.same (u : StX H S cp cells a l b) (e : Same H H2) : StX H2 S cp cells a l b := ⟨e _ _ u.s, e _ _ u.c, u.n, u.z⟩
theorem StX.bar (u : StX H S cp cells a l b) (e : Bar S H H2) {a' l' : Int} {b' : Bool} (h : H2 S = some (.lst [.ref cp, .int a', .int l', .bl b'])) : StX H2 S cp cells a' l' b' := ⟨h, e _ _ u.c u.n, u.n, u.z⟩
theorem StX.stay (u : StX H S cp cells a l b) (e : Bar S H H2) : Stay H H2 := e.stay u.s rfl
theorem StAt.same (u : StAt H S) (e : Same H H2) : StAt H2 S := by
  obtain ⟨cp, cells, a, l, b, u⟩ := u
  exact ⟨cp, cells, a, l, b, u.same e⟩
theorem StAt.stay (u : StAt H S) (e : Bar S H H2) : Stay H H2 := by
  obtain ⟨cp, cells, a, l, b, u⟩ := u
  exact u.stay e
theorem at_st (F : FrD K H σ δ) (hi : δ[i]? = some (some (.v (.ref S)))) {xs : List V} {j : Nat} (hS : H S = some (.lst xs)) (hx : xs[j]? = some x) : At K (tOp (rIxL K) (tVar i) (tC (.int j))) σ H (.v x) := at_ixL (vat F i hi) (fun _ _ => at_c) (SqL.of hS) (atI_nat hx)
/-- s[j] = value -/
theorem st_setS (F : FrD K H σ δ) (hi : δ[i]? = some (some (.v (.ref S)))) {xs : List V} {j : Nat} (hS : H S = some (.lst xs)) (hj : j < xs.length) (hv : At K te σ H (.v x)) (q : ∀ H2, Same H H2 → E.nx σ (upd H2 S (.lst (xs.set j x)))) : tAsg te (gSub (tVar i) (tC (.int j)) rSetL) E σ H :=
  hv _ fun v H1 e1 r1 => by
    cases r1.val
    obtain ⟨u, h1, h2⟩ := F.get hi
    cases h2.val
    refine ⟨_, h1, S, xs, (j : Int), j, rfl, rfl, e1 _ _ hS, ?_, q H1 e1⟩
    unfold ixN
    rw [if_pos (by omega), if_pos (by omega)]
    simp
theorem st_setC {u : L2.TS} (q : u E (σ.set i (some x)) H) : tSeq (tAsg (tC x) (gName i)) u E σ H := q
theorem cmulL {n m : Int} (h : -(2 ^ 64) < n ∧ n < 2 ^ 64) : CMul n m := Or.inl h
theorem cmulR {n m : Int} (h : -(2 ^ 64) < m ∧ m < 2 ^ 64) : CMul n m := Or.inr h
end
def AnySp (K : PySem.W.Frag) : Sp := fun vs H Q _ => ∃ x : Int, vs = [.int x] ∧ ∀ (y : Int) H', Same H H' → Q (.int y) H'
theorem at_idx {σ : L2.St} {H : Hp} {δ : DS} {ta tb : TE} {cs : List Int} {k : Nat} (F : FrD K H σ δ) (ha : EvD K ta δ (.t (cs.map D.i))) (hb : EvD K tb δ (.i (k : Nat))) (hk : k < cs.length) : EvD K (tOp (rIxT K) ta tb) δ (.i cs[k]) :=
  ev_ix ha hb (atI_nat (by rw [List.getElem?_map, List.getElem?_eq_getElem hk]; rfl))
theorem sc_law_mixed : FnScope ["_law_seed", "_law_primes", "_law_number", "_law_k", "_law_prime", "_law_far", "_law_square", "_law_power"] ["_law_seed"] (defScope s_law_mixed) := ⟨rfl, rfl, rfl, by decide +kernel, rfl, by decide +kernel, by decide +kernel⟩
theorem cal_law_mixed (T : Tx w K mg) : Cal P w K mg base 1 "_law_mixed" (AnySp K) [] := by
  obtain ⟨fd, F⟩ := T.defn (d := d_law_mixed) 49 rfl
  refine ⟨_, fd, ["_law_seed"], [], F.ok (k := 0) sc_law_mixed (fun vs H Q E h => ?_) (fun cdv A outer s H vs Q E hr h => ⟨_, PSs.nox (pss_cons (ps_set (i := 1) sc_law_mixed.nd rfl (Or.inl rfl) (pe_tup (pa_cons pe_int (pa_cons pe_int (pa_cons pe_int (pa_cons pe_int (pa_cons pe_int pa_nil))))))) (pss_cons (ps_set (i := 2) sc_law_mixed.nd rfl (Or.inl rfl) pe_int) (pss_cons (ps_for PassesOwn.never rfl (pi_enumT rfl (T.free 73) (pa_cons (pv 1) pa_nil)) (pg_tup rfl (pgs_cons (pg_name (i := 3) sc_law_mixed.nd rfl (Or.inl rfl)) (pgs_cons (pg_name (i := 4) sc_law_mixed.nd rfl (Or.inl rfl)) pgs_nil))) (pss_cons (ps_set (i := 5) sc_law_mixed.nd rfl (Or.inl rfl) (pe_op op_add (pv 0) (pe_ix ix_tup (pe_tup (pa_cons pe_int (pa_cons pe_int (pa_cons pe_int (pa_cons pe_int (pa_cons pe_int pa_nil)))))) (pv 3) (fun _ _ => rfl)))) (pss_cons (ps_set (i := 5) sc_law_mixed.nd rfl (Or.inl rfl) (pe_op op_mod (pe_op op_mul (pv 5) (pe_op op_add pe_int (pe_op op_mul pe_int (pv 3)))) (pv 4))) (pss_cons (ps_set (i := 6) sc_law_mixed.nd rfl (Or.inl rfl) (pe_op op_mod (pe_op op_mul (pv 5) (pv 5)) (pv 4))) (pss_cons (ps_set (i := 7) sc_law_mixed.nd rfl (Or.inl rfl) (pe_op op_mod (pe_op op_mul (pe_op op_mod (pe_op op_mul (pv 6) (pv 6)) (pv 4)) (pv 5)) (pv 4))) (pss_one (ps_set (i := 2) sc_law_mixed.nd rfl (Or.inl rfl) (pe_op op_add (pe_op op_mul (pv 2) (pv 4)) (pv 7))))))))) (pss_one (ps_ret (pv 2)))))), ?_⟩), T.glo 49, F.kp, F.bindsN (fun _ _ _ _ _ _ us hl => match us, hl with | [_], _ => rfl), .nil⟩
  · obtain ⟨x, rfl, _⟩ := h
    rfl
  obtain ⟨x, rfl, q⟩ := h
  have F0 : FrD K H (L2.start ["_law_seed", "_law_primes", "_law_number", "_law_k", "_law_prime", "_law_far", "_law_square", "_law_power"] [.int x]) [some (.i x), none, none, none, none, none, none, none] := FrD.start (N := ["_law_seed", "_law_primes", "_law_number", "_law_k", "_law_prime", "_law_far", "_law_square", "_law_power"]) (RepL.vals _)
  refine st_set (at_of F0 (ev_tup (ds := [.i 2147483647, .i 2147483629, .i 2147483587, .i 2147483579, .i 2147483563]) (ea_cons ev_c (ea_cons ev_c (ea_cons ev_c (ea_cons ev_c (ea_cons ev_c ea_nil))))))) fun v1 H1 e1 r1 => ?_
  have F1 := (F0.same e1).set r1 1
  refine st_setC ?_
  have F2 := F1.set (v := .int 0) (d := .i 0) (.v _) 2
  refine st_enumT (ds := [2147483647, 2147483629, 2147483587, 2147483579, 2147483563].map D.i) (fun H3 k σ' H' => Same H3 H' ∧ ∃ y : Int, FrD K H' σ' [some (.i x), some (.t [.i 2147483647, .i 2147483629, .i 2147483587, .i 2147483579, .i 2147483563]), some (.i y), none, none, none, none, none])
    (vat F2 1 rfl) (fun H3 e3 => ⟨Same.refl _, 0, F2.same e3⟩) (fun H3 k σ' H' e3 z => Stay.same z.1) (fun H3 k σ' H' H'' e z => ⟨z.1.trans e, z.2.imp fun y F => F.same e⟩) ?_ ?_
  · rintro H3 k d v σ' H' e3 hd rd ⟨sm, y, F'⟩
    have hk : k < 5 := (List.getElem?_eq_some_iff.mp hd).1
    obtain ⟨p, hp, hp0, hp1⟩ : ∃ p : Int, d = .i p ∧ 0 < p ∧ p < 2 ^ 32 := by
      match k, hd with
      | 0, hd => exact ⟨_, (Option.some.inj hd).symm, by decide, by decide⟩
      | 1, hd => exact ⟨_, (Option.some.inj hd).symm, by decide, by decide⟩
      | 2, hd => exact ⟨_, (Option.some.inj hd).symm, by decide, by decide⟩
      | 3, hd => exact ⟨_, (Option.some.inj hd).symm, by decide, by decide⟩
      | 4, hd => exact ⟨_, (Option.some.inj hd).symm, by decide, by decide⟩
      | k + 5, hd => cases hd
    subst hp
    have F3 : FrD K H' ((σ'.set 3 (some (.int (k : Nat)))).set 4 (some v)) [some (.i x), some (.t [.i 2147483647, .i 2147483629, .i 2147483587, .i 2147483579, .i 2147483563]), some (.i y), some (.i (k : Nat)), some (.i p), none, none, none] := (F'.set (.v _) 3).set rd 4
    refine st_set (at_addI (vat F3 0 rfl) fun H4 e4 => at_of (F3.same e4) (at_idx (cs := [11, 101, 1009, 10007, 100003]) (F3.same e4) (ev_tup (ds := [.i 11, .i 101, .i 1009, .i 10007, .i 100003]) (ea_cons ev_c (ea_cons ev_c (ea_cons ev_c (ea_cons ev_c (ea_cons ev_c ea_nil)))))) (ev_var (i := 3) rfl) hk)) fun v4 H4 e4 r4 => ?_
    have F4 := (F3.same e4).set r4 5
    refine st_set (at_modI (at_mulI (vat F4 5 rfl) (fun H5 e5 => at_addI at_c fun H6 e6 => at_mulI at_c (fun H7 e7 => vat (((F4.same e5).same e6).same e7) 3 rfl) (cmulL ⟨by decide, by decide⟩)) (cmulR ⟨by omega, by omega⟩)) (fun H5 e5 => vat (F4.same e5) 4 rfl) hp0) fun v5 H5 e5 r5 => ?_
    have F5 := (F4.same e5).set r5 5
    revert F5
    generalize ((x + [11, 101, 1009, 10007, 100003][k]) * (48271 + 2 * (k : Int))) = far0
    intro F5
    have b1 := Int.emod_nonneg far0 (show p ≠ 0 by omega)
    have b2 := Int.emod_lt_of_pos far0 hp0
    have F5' : FrD K H5 ((((σ'.set 3 (some (.int (k : Nat)))).set 4 (some v)).set 5 (some v4)).set 5 (some v5)) [some (.i x), some (.t [.i 2147483647, .i 2147483629, .i 2147483587, .i 2147483579, .i 2147483563]), some (.i y), some (.i (k : Nat)), some (.i p), some (.i (far0 % p)), none, none] := F5
    refine st_set (at_modI (at_mulI (vat F5' 5 rfl) (fun H6 e6 => vat (F5'.same e6) 5 rfl) (cmulR ⟨by omega, by omega⟩)) (fun H6 e6 => vat (F5'.same e6) 4 rfl) hp0) fun v6 H6 e6 r6 => ?_
    have F6 := (F5'.same e6).set r6 6
    have b3 := Int.emod_nonneg (far0 % p * (far0 % p)) (show p ≠ 0 by omega)
    have b4 := Int.emod_lt_of_pos (far0 % p * (far0 % p)) hp0
    refine st_set (at_modI (at_mulI (at_modI (at_mulI (vat F6 6 rfl) (fun H7 e7 => vat (F6.same e7) 6 rfl) (cmulR ⟨by omega, by omega⟩)) (fun H7 e7 => vat (F6.same e7) 4 rfl) hp0) (fun H7 e7 => vat (F6.same e7) 5 rfl) (cmulR ⟨by omega, by omega⟩)) (fun H7 e7 => vat (F6.same e7) 4 rfl) hp0) fun v7 H7 e7 r7 => ?_
    have F7 := (F6.same e7).set r7 7
    refine st_set (at_addI (at_mulI (vat F7 2 rfl) (fun H8 e8 => vat (F7.same e8) 4 rfl) (cmulR ⟨by omega, by omega⟩)) fun H8 e8 => vat (F7.same e8) 7 rfl) fun v8 H8 e8 r8 => ?_
    have F8 := (F7.same e8).set r8 2
    exact ⟨sm.trans (e4.trans (e5.trans (e6.trans (e7.trans e8)))), _, ((((F8.forget 3).forget 4).forget 5).forget 6).forget 7⟩
  · rintro H3 σ' H' e3 ⟨sm, y, F'⟩
    refine st_ret (vat F' 2 rfl) fun v H4 e4 r4 => ?_
    cases r4.val
    exact q y H4 (e1.trans (e3.trans (sm.trans e4)))
end Ww

set_option Elab.async false
set_option linter.all false
set_option maxRecDepth 100000
set_option maxHeartbeats 4000000
/-! W16b: the law's draws (printed from W16b.src by gen1.py). -/
namespace Ww
open PySem PySem.Spec PyProof.Rows L2
open C8 (Cal CalAt Met Mak pe_c pe_mk pe_mt pe_mt0)
variable {P : Program} {w : World} {K : PySem.W.Frag} {mg : Str → Option Value} {base : Heap}
theorem st_par {σ : L2.St} {H : Hp} {E : Ends} {ta : TA} {x y : V} {i j : Nat} (ha : AtA K ta σ H [.v x, .v y]) (q : ∀ H2, Same H H2 → E.nx ((σ.set i (some x)).set j (some y)) H2) : tPar i j ta E σ H :=
  ha _ fun vs H1 e1 rl => by
    have evs : vs = [x, y] := RepL.vals_eq (xs := [x, y]) rl
    subst evs
    exact ⟨x, y, rfl, q H1 e1⟩
theorem st_callS {σ : L2.St} {H : Hp} {E : Ends} {sp : Sp} {XE : XK} {t : TA} {ds : List D} {g : TG} (ha : AtA K t σ H ds) (q : ∀ vs H2, Same H H2 → RepL K H2 vs ds → sp vs H2 (fun v H3 => g v σ H3 E.nx) XE) : tAsg (tCall sp [] XE t) g E σ H :=
  ha _ fun vs H2 e2 rl => by
    rw [List.append_nil]
    exact q vs H2 e2 rl
theorem st_if2 {σ : L2.St} {H : Hp} {E : Ends} {tt : TT} {t u : L2.TS} {b : Bool} (h : AtT tt σ H b) (q1 : b = true → ∀ H2, Same H H2 → t E σ H2) (q2 : b = false → ∀ H2, Same H H2 → u E σ H2) : tIfS tt t u E σ H := by
  cases b with
  | true => exact st_ifT h (q1 rfl)
  | false => exact st_ifF h (q2 rfl)
theorem st_ifS {σ : L2.St} {H : Hp} {E : Ends} {tt : TT} {t u v : L2.TS} {b : Bool} (h : AtT tt σ H b) (q1 : b = true → ∀ H2, Same H H2 → t { E with nx := v E } σ H2) (q2 : b = false → ∀ H2, Same H H2 → u { E with nx := v E } σ H2) : tSeq (tIfS tt t u) v E σ H := st_if2 h q1 q2
theorem at_lenC {σ : L2.St} {H : Hp} {te : TE} {cp : Addr} {cells : List Int} (ha : At K te σ H (.v (.ref cp))) (hc : H cp = some (.lst (cells.map V.int))) : At K (tCB (fun xs H Q => ∃ p ys, xs = [.ref p] ∧ (SqL K H p ys ∨ SqT K H p ys) ∧ Q (.int ys.length) H) (tCons te tNil)) σ H (.i (cells.length : Int)) := at_lenL ha (SqL.of hc) (by rw [List.length_map])
def FillSp : Sp := fun vs H Q _ => ∃ S, vs = [.ref S] ∧ StAt H S ∧ ∀ H', Bar S H H' → StAt H' S → Q .non H'
theorem e18 : (10 : Int) ^ (18 : Int).toNat = 1000000000000000000 := by decide
theorem sc_law_fill : FnScope ["_law_state", "_law_seed", "_law_cells", "_law_at"] ["_law_state"] (defScope s_law_fill) := ⟨rfl, rfl, rfl, by decide +kernel, rfl, by decide +kernel, by decide +kernel⟩
theorem cal_law_fill (T : Tx w K mg) : Cal P w K mg base 2 "_law_fill" FillSp [] := by
  obtain ⟨fd, F⟩ := T.defn (d := d_law_fill) 50 rfl
  refine ⟨_, fd, ["_law_state"], [], F.ok (k := 1) sc_law_fill (fun vs H Q E h => ?_) (fun cdv A outer s H vs Q E hr h => ⟨_, PSs.nox (pss_cons (ps_par (i := 2) (j := 3) (by rfl) sc_law_fill.nd rfl rfl (by decide) rfl rfl (pa_cons (pe_ix ix_list (pv 0) pe_int (fun _ _ => rfl)) (pa_cons (pe_ix ix_list (pv 0) pe_int (fun _ _ => rfl)) pa_nil)) (by rfl)) (pss_cons (ps_set (i := 1) sc_law_fill.nd rfl (Or.inl rfl) (pe_op op_add (pe_op op_mul pe_int (pv 3)) pe_int)) (pss_cons (ps_if (pt_cmpR op_gt (pe_callB call_len_seq (by rfl) (T.free 63) PySem.boot_len (pa_cons (pv 2) pa_nil)) pe_int (nomark _)) (pss_cons (ps_set (i := 1) sc_law_fill.nd rfl (Or.inl rfl) (pe_op op_mul pe_int (pe_op op_fdivW (pv 3) (pe_callB call_len_seq (by rfl) (T.free 63) PySem.boot_len (pa_cons (pv 2) pa_nil))))) (pss_one (ps_set (i := 1) sc_law_fill.nd rfl (Or.inl rfl) (pe_op op_add (pv 1) (pe_ix ix_list (pv 2) (pe_op op_mod (pv 3) (pe_callB call_len_seq (by rfl) (T.free 63) PySem.boot_len (pa_cons (pv 2) pa_nil))) (fun _ _ => rfl)))))) pss_nil) (pss_cons (ps_asg (pe_op op_add (pv 3) pe_int) (pg_sub (pv 0) pe_int set_list)) (pss_cons (ps_asg (pe_or (pe_cmpR op_ge (pv 3) (pe_callB call_len_seq (by rfl) (T.free 63) PySem.boot_len (pa_cons (pv 2) pa_nil)) (nomark _)) (pe_one (pe_cmpR op_lt (pv 1) (pe_op op_pow pe_int pe_int) (nomark _)))) (pg_sub (pv 0) pe_int set_list)) (pss_one (ps_if (pt_val (pe_ix ix_list (pv 0) pe_int (fun _ _ => rfl))) (pss_one (ps_asg (pe_c (cal_law_mixed T) hr (by decide) (by rfl) (pa_cons (pv 1) pa_nil)) (pg_sub (pv 0) pe_int set_list))) (pss_one (ps_asg (pe_op op_sub (pv 1) (pe_op op_pow pe_int pe_int)) (pg_sub (pv 0) pe_int set_list)))))))))), ?_⟩), T.glo 50, F.kp, F.bindsN (fun _ _ _ _ _ _ us hl => match us, hl with | [_], _ => rfl), .nil⟩
  · obtain ⟨S, rfl, _⟩ := h
    rfl
  obtain ⟨S, rfl, ⟨cp, cells, a, l, b, u⟩, q⟩ := h
  have F0 : FrD K H (L2.start ["_law_state", "_law_seed", "_law_cells", "_law_at"] [.ref S]) [some (.v (.ref S)), none, none, none] := FrD.start (N := ["_law_state", "_law_seed", "_law_cells", "_law_at"]) (RepL.vals _)
  refine st_par (i := 2) (j := 3) (ata_cons (at_st F0 (i := 0) rfl u.s (j := 0) rfl) (fun H1 e1 => ata_cons (at_st (F0.same e1) (i := 0) rfl (e1 _ _ u.s) (j := 1) rfl) fun _ _ => ata_nil)) fun H1 e1 => ?_
  have F1 : FrD K H1 (((L2.start ["_law_state", "_law_seed", "_law_cells", "_law_at"] [.ref S]).set 2 (some (.ref cp))).set 3 (some (.int a))) [some (.v (.ref S)), none, some (.v (.ref cp)), some (.i a)] := ((F0.same e1).set (.v _) 2).set (.v _) 3
  replace u := u.same e1
  refine st_set (at_addI (at_mulI at_c (fun H2 e2 => vat (F1.same e2) 3 rfl) (cmulL ⟨by decide, by decide⟩)) fun _ _ => at_c) fun v2 H2 e2 r2 => ?_
  have F2 := (F1.same e2).set r2 1
  replace u := u.same e2
  have e12 := e1.trans e2
  have fin : ∀ (σ : L2.St) (H3 : Hp) (z : Int), Same H H3 → FrD K H3 σ [some (.v (.ref S)), some (.i z), some (.v (.ref cp)), some (.i a)] → StX H3 S cp cells a l b →
      tSeq (tAsg (tOp (rI0 fun i j => .int (i + j)) (tVar 3) (tC (.int 1))) (gSub (tVar 0) (tC (.int 1)) rSetL)) (tSeq (tAsg (tOrV (tOp (rI0 fun i j => .bl (decide (j ≤ i))) (tVar 3) (tCB (fun xs H Q => ∃ p ys, xs = [.ref p] ∧ (SqL K H p ys ∨ SqT K H p ys) ∧ Q (.int ys.length) H) (tCons (tVar 2) tNil))) (tOp (rI0 fun i j => .bl (decide (i < j))) (tVar 1) (tOp (rI CPow fun i j => .int (i ^ j.toNat)) (tC (.int 10)) (tC (.int 18))))) (gSub (tVar 0) (tC (.int 3)) rSetL))
        (tIfS (tB (tOp (rIxL K) (tVar 0) (tC (.int 3)))) (tAsg (tCall (AnySp K) [] E0 (tCons (tVar 1) tNil)) (gSub (tVar 0) (tC (.int 2)) rSetL)) (tAsg (tOp (rI0 fun i j => .int (i - j)) (tVar 1) (tOp (rI CPow fun i j => .int (i ^ j.toNat)) (tC (.int 10)) (tC (.int 18)))) (gSub (tVar 0) (tC (.int 2)) rSetL)))) { nx := fun _ H' => Q .non H', rt := Q } σ H3 := by
    intro σ H3 z e3 F3 u
    refine st_seq (st_setS F3 (i := 0) rfl u.s (j := 1) (by show 1 < 4; decide) (at_addI (n := a) (m := 1) (vat F3 3 rfl) fun _ _ => at_c) fun H4 e4 => ?_)
    have b4 : Bar S H3 (upd H4 S (.lst [.ref cp, .int (a + 1), .int l, .bl b])) := (Bar.same e4).trans Bar.upd
    have u4 : StX (upd H4 S (.lst [.ref cp, .int (a + 1), .int l, .bl b])) S cp cells (a + 1) l b := u.bar b4 upd_same
    have F4 := F3.mono (u.stay b4)
    refine st_seq (st_setS F4 (i := 0) rfl u4.s (j := 3) (by show 3 < 4; decide) (at_orV (at_geB (n := a) (m := (cells.length : Int)) (vat F4 3 rfl) (fun H5 e5 => at_lenC (vat (F4.same e5) 2 rfl) (e5 _ _ u4.c)) rfl) fun H5 e5 => at_ltB (n := z) (m := 1000000000000000000) (vat (F4.same e5) 1 rfl) (fun H6 e6 => at_is (at_powI (n := 10) (m := 18) at_c (fun _ _ => at_c) ⟨by decide, by decide, by decide⟩) (congrArg D.i e18)) rfl) fun H5 e5 => ?_)
    generalize (decide ((cells.length : Int) ≤ a) || decide (z < 1000000000000000000)) = bb
    have b5 : Bar S (upd H4 S (.lst [.ref cp, .int (a + 1), .int l, .bl b])) (upd H5 S (.lst [.ref cp, .int (a + 1), .int l, .bl bb])) := (Bar.same e5).trans Bar.upd
    have u5 : StX (upd H5 S (.lst [.ref cp, .int (a + 1), .int l, .bl bb])) S cp cells (a + 1) l bb := u4.bar b5 upd_same
    have F5 := F4.mono (u4.stay b5)
    have fin2 : ∀ H6, Same (upd H5 S (.lst [.ref cp, .int (a + 1), .int l, .bl bb])) H6 → Bar S H H6 ∧ StX H6 S cp cells (a + 1) l bb ∧ FrD K H6 σ [some (.v (.ref S)), some (.i z), some (.v (.ref cp)), some (.i a)] := fun H6 e6 => ⟨((Bar.same e3).trans (b4.trans b5)).trans (Bar.same e6), u5.same e6, F5.same e6⟩
    refine st_if2 (b := bb) (att_B (at_st F5 (i := 0) rfl u5.s (j := 3) rfl)) (fun hb H6 e6 => ?_) fun hb H6 e6 => ?_
    · obtain ⟨b6, u6, F6⟩ := fin2 H6 e6
      refine st_callS (ata_cons (vat F6 1 rfl) (fun _ _ => ata_nil)) fun vs H7 e7 rl => ?_
      have evs : vs = [.int z] := RepL.vals_eq (xs := [.int z]) rl
      subst evs
      refine ⟨z, rfl, fun y H8 e8 => ?_⟩
      have u8 := u6.same (e7.trans e8)
      have F8 := F6.same (e7.trans e8)
      obtain ⟨x0, h1, h2⟩ := F8.get (i := 0) rfl
      cases h2.val
      refine ⟨_, h1, S, _, 2, 2, rfl, rfl, u8.s, rfl, ?_⟩
      have b8 : Bar S H8 (upd H8 S (.lst ([V.ref cp, .int (a + 1), .int l, .bl bb].set 2 (.int y)))) := Bar.upd
      exact q _ ((b6.trans (Bar.same (e7.trans e8))).trans b8) ⟨cp, cells, a + 1, y, bb, u8.bar b8 upd_same⟩
    · obtain ⟨b6, u6, F6⟩ := fin2 H6 e6
      refine st_setS F6 (i := 0) rfl u6.s (j := 2) (by show 2 < 4; decide) (at_subI (n := z) (m := 1000000000000000000) (vat F6 1 rfl) fun H7 e7 => at_is (at_powI (n := 10) (m := 18) at_c (fun _ _ => at_c) ⟨by decide, by decide, by decide⟩) (congrArg D.i e18)) fun H7 e7 => ?_
      have b7 : Bar S H6 (upd H7 S (.lst [.ref cp, .int (a + 1), .int (z - 1000000000000000000), .bl bb])) := (Bar.same e7).trans Bar.upd
      exact q _ (b6.trans b7) ⟨cp, cells, a + 1, z - 1000000000000000000, bb, u6.bar b7 upd_same⟩
  refine st_ifS (b := decide (0 < (cells.length : Int))) (att_test (at_gtB (n := (cells.length : Int)) (m := 0) (at_lenC (vat F2 2 rfl) u.c) (fun _ _ => at_c) rfl)) (fun hb H3 e3 => ?_) fun hb H3 e3 => fin _ H3 _ (e12.trans e3) (F2.same e3) (u.same e3)
  · have F3 := F2.same e3
    replace u := u.same e3
    have hl : 0 < (cells.length : Int) := of_decide_eq_true hb
    have hlz := u.z
    have hm0 := Int.emod_nonneg a (show (cells.length : Int) ≠ 0 by omega)
    have hm1 := Int.emod_lt_of_pos a hl
    obtain ⟨c, hc⟩ : ∃ c, atI (cells.map V.int) (a % (cells.length : Int)) = some (V.int c) := by
      have hj : (a % (cells.length : Int)).toNat < cells.length := by omega
      refine ⟨cells[(a % (cells.length : Int)).toNat], ?_⟩
      have ej : a % (cells.length : Int) = (((a % (cells.length : Int)).toNat : Nat) : Int) := by omega
      have := atI_nat (xs := cells.map V.int) (j := (a % (cells.length : Int)).toNat) (v := .int cells[(a % (cells.length : Int)).toNat]) (by rw [List.getElem?_map, List.getElem?_eq_getElem hj]; rfl)
      rw [← ej] at this
      exact this
    refine st_seq (st_set (d := .i (104729 * (a / (cells.length : Int)))) (at_mulI at_c (fun H4 e4 => at_divI (vat (F3.same e4) 3 rfl) (fun H5 e5 => at_lenC (vat ((F3.same e4).same e5) 2 rfl) ((e4.trans e5) _ _ u.c)) (wide_div hl (b := 64) (by omega) (by decide) (by decide))) (cmulL ⟨by decide, by decide⟩)) fun v4 H4 e4 r4 => ?_)
    have F4 := (F3.same e4).set r4 1
    refine st_set (at_addI (n := 104729 * (a / (cells.length : Int))) (m := c) (vat F4 1 rfl) fun H5 e5 => at_ixL (vat (F4.same e5) 2 rfl) (fun H6 e6 => at_modI (vat ((F4.same e5).same e6) 3 rfl) (fun H7 e7 => at_lenC (vat (((F4.same e5).same e6).same e7) 2 rfl) ((e4.trans (e5.trans (e6.trans e7))) _ _ u.c)) hl) (SqL.of (e5 _ _ (e4 _ _ u.c))) hc) fun v5 H5 e5 r5 => ?_
    exact fin _ H5 _ (e12.trans (e3.trans (e4.trans e5))) ((F4.same e5).set r5 1) (u.same (e4.trans e5))
end Ww

set_option Elab.async false
set_option linter.all false
set_option maxRecDepth 100000
set_option maxHeartbeats 4000000
/-! W16c: take, sizes, powers (printed from W16c.src by gen1.py). -/
namespace Ww
open PySem PySem.Spec PyProof.Rows L2
open C8 (Cal CalAt Met Mak pe_c pe_mk pe_mt pe_mt0)
variable {P : Program} {w : World} {K : PySem.W.Frag} {mg : Str → Option Value} {base : Heap}
section
variable {σ : L2.St} {δ : DS} {H : Hp} {E : Ends} {sp : Sp} {XE : XK} {t : TA} {ds : List D} {i : Nat} {n m : Int}
theorem st_callD (ha : AtA K t σ H ds) (q : ∀ vs H2, Same H H2 → RepL K H2 vs ds → sp vs H2 (fun _ H3 => E.nx σ H3) XE) : tDrop (tCall sp [] XE t) E σ H :=
  ha _ fun vs H2 e2 rl => by
    rw [List.append_nil]
    exact q vs H2 e2 rl
theorem st_augC (F : FrD K H σ δ) (h : δ[i]? = some (some (.i n))) (q : E.nx (σ.set i (some (.int (n + m)))) H) : tAug i (tC (.int m)) (ipI fun i j => i + j) E σ H := by
  obtain ⟨v, h1, h2⟩ := F.get h
  cases h2.val
  exact ⟨_, h1, n, m, rfl, rfl, q⟩
end
def DrawSp : Sp := fun vs H Q _ => ∃ S m, vs = [.ref S, .int m] ∧ (0 < m ∧ m < 2 ^ 70) ∧ StAt H S ∧ ∀ r H', 0 ≤ r → r < m → Bar S H H' → StAt H' S → Q (.int r) H'
theorem sc_law_take : FnScope ["_law_state", "_law_many", "_law_turns", "_law_digit"] ["_law_state", "_law_many"] (defScope s_law_take) := ⟨rfl, rfl, rfl, by decide +kernel, rfl, by decide +kernel, by decide +kernel⟩
theorem cal_law_take (T : Tx w K mg) : Cal P w K mg base 3 "_law_take" DrawSp [] := by
  obtain ⟨fd, F⟩ := T.defn (d := d_law_take) 51 rfl
  refine ⟨_, fd, ["_law_state", "_law_many"], [], F.ok (k := 2) sc_law_take (fun vs H Q E h => ?_) (fun cdv A outer s H vs Q E hr h => ⟨_, PSs.nox (pss_cons (ps_set (i := 2) sc_law_take.nd rfl (Or.inl rfl) pe_int) (pss_cons (ps_while PassesOwn.never (PW.pt (pw_and (pt_cmpR op_lt (pv 2) pe_int (nomark _)) (pw_and1 (PW.pt (pw_or (pt_cmpR op_eq (pe_ix ix_list (pv 0) pe_int (fun _ _ => rfl)) pe_int (nomark _)) (pw_or1 (PW.pt (pw_and (pt_val (pe_ix ix_list (pv 0) pe_int (fun _ _ => rfl))) (pw_and1 (pt_cmpR op_lt (pe_ix ix_list (pv 0) pe_int (fun _ _ => rfl)) (pe_op op_mul (pv 1) pe_int) (nomark _))))))))))) (pss_cons (ps_expr (pe_c (cal_law_fill T) hr (by decide) (by rfl) (pa_cons (pv 0) pa_nil))) (pss_cons (ps_aug (i := 2) sc_law_take.nd rfl (.inl rfl) pe_int ip_add) (pss_one (ps_if (PW.pt (pw_and (pt_val (pe_ix ix_list (pv 0) pe_int (fun _ _ => rfl))) (pw_and1 (pt_cmpR op_lt (pe_ix ix_list (pv 0) pe_int (fun _ _ => rfl)) (pe_op op_mul (pv 1) pe_int) (nomark _))))) (pss_one (ps_asg (pe_op op_add (pe_ix ix_list (pv 0) pe_int (fun _ _ => rfl)) (pe_op op_mul (pe_op op_mul (pv 1) pe_int) (pe_op op_add pe_int (pe_op op_mod (pe_ix ix_list (pv 0) pe_int (fun _ _ => rfl)) pe_int)))) (pg_sub (pv 0) pe_int set_list))) pss_nil))))) (pss_cons (ps_set (i := 3) sc_law_take.nd rfl (Or.inl rfl) (pe_op op_mod (pe_ix ix_list (pv 0) pe_int (fun _ _ => rfl)) (pv 1))) (pss_cons (ps_asg (pe_op op_fdivW (pe_ix ix_list (pv 0) pe_int (fun _ _ => rfl)) (pv 1)) (pg_sub (pv 0) pe_int set_list)) (pss_one (ps_ret (pv 3))))))), ?_⟩), T.glo 51, F.kp, F.bindsN (fun _ _ _ _ _ _ us hl => match us, hl with | [_, _], _ => rfl), .nil⟩
  · obtain ⟨S, m, rfl, _⟩ := h
    rfl
  obtain ⟨S, m, rfl, hm, u0, q⟩ := h
  have F0 : FrD K H (L2.start ["_law_state", "_law_many", "_law_turns", "_law_digit"] [.ref S, .int m]) [some (.v (.ref S)), some (.i m), none, none] := FrD.start (N := ["_law_state", "_law_many", "_law_turns", "_law_digit"]) (RepL.vals _)
  refine st_setC ?_
  have F1 : FrD K H ((L2.start ["_law_state", "_law_many", "_law_turns", "_law_digit"] [.ref S, .int m]).set 2 (some (.int 0))) [some (.v (.ref S)), some (.i m), some (.i ((0 : Nat) : Int)), none] := F0.set (.v _) 2
  refine ⟨fun k σ' H' => ∃ t : Nat, k = 64 - t ∧ t ≤ 64 ∧ Bar S H H' ∧ StAt H' S ∧ FrD K H' σ' [some (.v (.ref S)), some (.i m), some (.i (t : Int)), none], ⟨64, 0, rfl, by decide, Bar.refl _ _, u0, F1⟩, ?_⟩
  rintro k σ' H' ⟨t, rfl, ht, b, ⟨cp, cells, a, l, bb, u⟩, F'⟩
  have small : ∀ {σ : L2.St} {H2 : Hp} {z : D} {cp : Addr} {a l : Int} {bb : Bool}, FrD K H2 σ [some (.v (.ref S)), some (.i m), some z, none] → H2 S = some (.lst [.ref cp, .int a, .int l, .bl bb]) →
      AtT (tAnd (tB (tOp (rIxL K) (tVar 0) (tC (.int 3)))) (tTest (tOp (rI0 fun i j => .bl (decide (i < j))) (tOp (rIxL K) (tVar 0) (tC (.int 2))) (tOp (rI CMul fun i j => .int (i * j)) (tVar 1) (tC (.int 4096)))))) σ H2 (bb && decide (l < m * 4096)) := fun F hS =>
    att_andV (att_B (at_st F (i := 0) rfl hS (j := 3) rfl)) fun H3 e3 => att_test (at_ltB (at_st (F.same e3) (i := 0) rfl (e3 _ _ hS) (j := 2) rfl) (fun H4 e4 => at_mulI (vat ((F.same e3).same e4) 1 rfl) (fun _ _ => at_c) (cmulR ⟨by decide, by decide⟩)) rfl)
  have tst : AtT (tAnd (tTest (tOp (rI0 fun i j => .bl (decide (i < j))) (tVar 2) (tC (.int 64)))) (tOr (tTest (tOp rEq (tOp (rIxL K) (tVar 0) (tC (.int 2))) (tC (.int 0)))) (tAnd (tB (tOp (rIxL K) (tVar 0) (tC (.int 3)))) (tTest (tOp (rI0 fun i j => .bl (decide (i < j))) (tOp (rIxL K) (tVar 0) (tC (.int 2))) (tOp (rI CMul fun i j => .int (i * j)) (tVar 1) (tC (.int 4096)))))))) σ' H' (decide ((t : Int) < 64) && (decide (V.int l = V.int 0) || (bb && decide (l < m * 4096)))) :=
    att_andV (att_test (at_ltB (K := K) (vat F' 2 rfl) (fun _ _ => at_c) rfl)) fun H2 e2 => att_orV (att_test (at_eq (K := K) (at_st (F'.same e2) (i := 0) rfl (e2 _ _ u.s) (j := 2) rfl) (fun _ _ => at_c) rfl)) fun H3 e3 => small ((F'.same e2).same e3) (e3 _ _ (e2 _ _ u.s))
  refine tst _ fun H2 e2 => ?_
  have u2 := u.same e2
  have F2 := F'.same e2
  have b2 := b.trans (Bar.same e2)
  cases hb : (decide ((t : Int) < 64) && (decide (V.int l = V.int 0) || (bb && decide (l < m * 4096)))) with
  | false =>
    rw [if_neg (by decide)]
    refine st_set (at_modI (at_st F2 (i := 0) rfl u2.s (j := 2) rfl) (fun H3 e3 => vat (F2.same e3) 1 rfl) hm.1) fun v3 H3 e3 r3 => ?_
    have F3 := (F2.same e3).set r3 3
    have u3 := u2.same e3
    refine st_seq (st_setS F3 (i := 0) rfl u3.s (j := 2) (by show 2 < 4; decide) (at_divI (n := l) (m := m) (at_st F3 (i := 0) rfl u3.s (j := 2) rfl) (fun H4 e4 => vat (F3.same e4) 1 rfl) (wide_div hm.1 (b := 80) (by omega) (by decide) (by decide))) fun H4 e4 => ?_)
    have b4 : Bar S H3 (upd H4 S (.lst [.ref cp, .int a, .int (l / m), .bl bb])) := (Bar.same e4).trans Bar.upd
    have F4 := F3.mono (u3.stay b4)
    refine st_ret (vat F4 3 rfl) fun v H5 e5 r5 => ?_
    cases r5.val
    exact q _ H5 (Int.emod_nonneg _ (by omega)) (Int.emod_lt_of_pos _ hm.1) (((b2.trans (Bar.same e3)).trans b4).trans (Bar.same e5)) (StAt.same ⟨cp, cells, a, l / m, bb, u3.bar b4 upd_same⟩ e5)
  | true =>
    rw [if_pos rfl]
    have ht64 : t < 64 := by
      have := (Bool.and_eq_true_iff.mp hb).1
      have := of_decide_eq_true this
      omega
    refine ⟨fun σ'' H'' => ∃ m', m' < 64 - t ∧ ∃ t' : Nat, m' = 64 - t' ∧ t' ≤ 64 ∧ Bar S H H'' ∧ StAt H'' S ∧ FrD K H'' σ'' [some (.v (.ref S)), some (.i m), some (.i (t' : Int)), none], fun _ _ h => h, ?_⟩
    refine st_seq (st_callD (ata_cons (vat F2 0 rfl) (fun _ _ => ata_nil)) fun vs H3 e3 rl => ?_)
    have evs : vs = [.ref S] := RepL.vals_eq (xs := [.ref S]) rl
    subst evs
    refine ⟨S, rfl, ⟨cp, cells, a, l, bb, u2.same e3⟩, fun H4 b4 ⟨cp4, cells4, a4, l4, bb4, u4⟩ => ?_⟩
    have F4 := (F2.same e3).mono ((u2.same e3).stay b4)
    have bH4 := (b2.trans (Bar.same e3)).trans b4
    refine st_seq (st_augC F4 (i := 2) rfl ?_)
    have F5 : FrD K H4 (σ'.set 2 (some (.int ((t : Int) + 1)))) [some (.v (.ref S)), some (.i m), some (.i ((t + 1 : Nat) : Int)), none] := by
      have e : ((t + 1 : Nat) : Int) = (t : Int) + 1 := by omega
      rw [e]
      exact F4.set (.v _) 2
    refine st_if2 (small F5 u4.s) (fun _ H6 e6 => ?_) fun _ H6 e6 => ⟨64 - (t + 1), by omega, t + 1, rfl, by omega, bH4.trans (Bar.same e6), StAt.same ⟨cp4, cells4, a4, l4, bb4, u4⟩ e6, F5.same e6⟩
    have F6 := F5.same e6
    have u6 := u4.same e6
    have h0 := Int.emod_nonneg l4 (show (4093 : Int) ≠ 0 by decide)
    have h1 := Int.emod_lt_of_pos l4 (show (0 : Int) < 4093 by decide)
    refine st_setS F6 (i := 0) rfl u6.s (j := 2) (by show 2 < 4; decide) (at_addI (n := l4) (m := m * 4096 * (1 + l4 % 4093)) (at_st F6 (i := 0) rfl u6.s (j := 2) rfl) fun H7 e7 => at_mulI (at_mulI (vat (F6.same e7) 1 rfl) (fun _ _ => at_c) (cmulR ⟨by decide, by decide⟩)) (fun H8 e8 => at_addI at_c fun H9 e9 => at_modI (at_st (((F6.same e7).same e8).same e9) (i := 0) rfl ((e7.trans (e8.trans e9)) _ _ u6.s) (j := 2) rfl) (fun _ _ => at_c) (by decide)) (cmulR ⟨by omega, by omega⟩)) fun H7 e7 => ?_
    have b7 : Bar S H6 (upd H7 S (.lst [.ref cp4, .int a4, .int (l4 + m * 4096 * (1 + l4 % 4093)), .bl bb4])) := (Bar.same e7).trans Bar.upd
    exact ⟨64 - (t + 1), by omega, t + 1, rfl, by omega, (bH4.trans (Bar.same e6)).trans b7, ⟨cp4, cells4, a4, _, bb4, u6.bar b7 upd_same⟩, F6.mono (u6.stay b7)⟩
end Ww

set_option Elab.async false
set_option linter.all false
set_option maxRecDepth 100000
set_option maxHeartbeats 4000000
/-! W16d: sizes, powers (printed from W16d.src by gen1.py). -/
namespace Ww
open PySem PySem.Spec PyProof.Rows L2
open C8 (Cal CalAt Met Mak pe_c pe_mk pe_mt pe_mt0)
variable {P : Program} {w : World} {K : PySem.W.Frag} {mg : Str → Option Value} {base : Heap}
section
variable {σ : L2.St} {δ : DS} {H : Hp} {E : Ends} {XE : XK} {tm te tb : TE} {i : Nat} {m n : Int} {S : Addr} {x : V} {rr : R2}
/-- a draw, in a frame -/
theorem draw {Q : VK} (F : FrD K H σ δ) (hi : δ[i]? = some (some (.v (.ref S)))) (hm : EvD K tm δ (.i m)) (hS : StAt H S) (h : 0 < m ∧ m < 2 ^ 70) (q : ∀ r H2, 0 ≤ r → r < m → Bar S H H2 → StAt H2 S → FrD K H2 σ δ → Q (.int r) H2) : tCall DrawSp [] XE (tCons (tVar i) (tCons tm tNil)) σ H Q :=
  ata_of F (ea_cons (ev_var hi) (ea_cons hm ea_nil)) _ fun vs H2 e2 rl => by
    have evs : vs = [.ref S, .int m] := RepL.vals_eq (xs := [.ref S, .int m]) rl
    subst evs
    exact ⟨S, m, rfl, h, hS.same e2, fun r H' h0 h1 b u => q r H' h0 h1 ((Bar.same e2).trans b) u ((F.same e2).mono ((hS.same e2).stay b))⟩
theorem op_c {Q : VK} (q : tb σ H fun y H2 => rr x y H2 Q) : tOp rr (tC x) tb σ H Q := q
theorem pw_succ (k : Nat) : pw ((k + 1 : Nat) : Int) = 2 * pw (k : Int) := by
  rw [pw_eq, pw_eq]
  have e1 : (((k + 1 : Nat) : Int)).toNat = k + 1 := by omega
  have e2 : ((k : Nat) : Int).toNat = k := by omega
  rw [e1, e2, Nat.pow_succ, Nat.mul_comm, Int.natCast_mul]
  rfl
theorem set_again {α : Type} {l : List α} {a b : Nat} {x y z : α} {u : α} (h : a ≠ b) : (((((l.set a u).set b x).set a y).set b z).set a u) = (l.set a u).set b z := by
  rw [List.set_comm (l := (l.set a u).set b x) y z h, List.set_set, List.set_set, List.set_comm _ _ h.symm, List.set_set]
/-- for k in range(n): x = 2 * x, from 1 -/
theorem st_dbl {ik ix : Nat} (hne : ik ≠ ix) (F : FrD K H σ δ) (hx : δ[ix]? = some (some (.i 1))) (ht : At K te σ H (.i n)) (hn : 0 ≤ n ∧ n ≤ 1000)
    (q : ∀ σ' H', Same H H' → FrD K H' σ' ((δ.set ik none).set ix (some (.i (pw n)))) → E.nx σ' H') :
    tFor (iRng1 (tCons te tNil)) (gName ik) (tAsg (tOp (rI CMul fun i j => .int (i * j)) (tC (.int 2)) (tVar ix)) (gName ix)) E σ H := by
  have hlx : ix < δ.length := (List.getElem?_eq_some_iff.mp hx).1
  refine st_forR (n := n) (fun k σ' H' => Same H H' ∧ FrD K H' σ' ((δ.set ik none).set ix (some (.i (pw (k : Nat)))))) ht (by omega) (by omega) (fun H2 e2 => ⟨e2, ?_⟩) ?_ ?_
  · have e : (δ.set ik none).set ix (some (.i (pw ((0 : Nat) : Int)))) = δ.set ik none := by
      have e1 : pw ((0 : Nat) : Int) = 1 := rfl
      rw [e1]
      refine List.ext_getElem? fun j => ?_
      rw [List.getElem?_set]
      by_cases hj : ix = j
      · subst hj
        rw [if_pos rfl, if_pos (by rw [List.length_set]; exact hlx), List.getElem?_set, if_neg hne, hx]
      · rw [if_neg hj]
    rw [e]
    exact (F.same e2).forget ik
  · rintro k σ' H' hk ⟨s, F'⟩
    have F2 := F'.set (v := .int (k : Nat)) (d := .i (k : Nat)) (.v _) ik
    have hg : ((((δ.set ik none).set ix (some (.i (pw (k : Nat))))).set ik (some (.i (k : Nat)))))[ix]? = some (some (.i (pw (k : Nat)))) := by
      rw [List.getElem?_set, if_neg hne, List.getElem?_set, if_pos rfl, if_pos (by rw [List.length_set]; exact hlx)]
    refine st_set (d := .i (2 * pw (k : Nat))) (at_mulI at_c (fun H3 e3 => vat (F2.same e3) ix hg) (cmulL ⟨by decide, by decide⟩)) fun v4 H4 e4 r4 => ?_
    have F4 := ((F2.same e4).set r4 ix).forget ik
    rw [set_again hne, ← pw_succ] at F4
    exact ⟨s.trans e4, F4⟩
  · rintro σ' H' ⟨s, F'⟩
    have e : ((n.toNat : Nat) : Int) = n := by omega
    rw [e] at F'
    exact q σ' H' s F'
theorem for_at {g : TG} {tb : L2.TS} (h : te σ H fun v H1 => tFor (iRng1 (tCons (tC v) tNil)) g tb E σ H1) : tFor (iRng1 (tCons te tNil)) g tb E σ H := h
end
def FreshSp (K : PySem.W.Frag) : Sp := fun vs H Q _ => ∃ (p : Addr) (ns : List Int), vs = [.ref p] ∧ SqL K H p (ns.map V.int) ∧ ns.length ≤ 100000 ∧ ∀ S H', H S = none → Same H H' → StAt H' S → Q (.ref S) H'
theorem sc_law_fresh : FnScope ["_law_script"] ["_law_script"] (defScope s_law_fresh) := ⟨rfl, rfl, rfl, by decide +kernel, rfl, by decide +kernel, by decide +kernel⟩
theorem cal_law_fresh (T : Tx w K mg) : Cal P w K mg base 1 "_law_fresh" (FreshSp K) [] := by
  obtain ⟨fd, F⟩ := T.defn (d := d_law_fresh) 48 rfl
  refine ⟨_, fd, ["_law_script"], [], F.ok (k := 0) sc_law_fresh (fun vs H Q E h => ?_) (fun cdv A outer s H vs Q E hr h => ⟨_, PSs.nox (pss_one (ps_ret (pe_lst (pa_cons (pe_slice sl_list (pv 0) po_none (po_some pe_int)) (pa_cons pe_int (pa_cons pe_int (pa_cons pe_bl pa_nil))))))), ?_⟩), T.glo 48, F.kp, F.bindsN (fun _ _ _ _ _ _ us hl => match us, hl with | [_], _ => rfl), .nil⟩
  · obtain ⟨p, ns, rfl, _⟩ := h
    rfl
  obtain ⟨p, ns, rfl, hs, hz, q⟩ := h
  refine ⟨_, rfl, 63, rfl, p, _, rfl, hs, fun l hl => ⟨by show 4 ≤ sizeLine; decide, fun S hS => ?_⟩⟩
  have e1 : Same H (upd H l (.lst (cutV (ns.map V.int) none (some 63)))) := Same.new hl
  have hlS : l ≠ S := fun e => by
    rw [← e, upd_same] at hS
    cases hS
  refine q S _ (e1.free hS) (e1.trans (Same.new hS)) ⟨l, (ns.drop (HT.sIx (ns.map V.int).length 0 none)).take (HT.sIx (ns.map V.int).length (ns.map V.int).length (some 63) - HT.sIx (ns.map V.int).length 0 none), 0, 0, false, upd_same, ?_, hlS, ?_⟩
  · rw [upd_ne hlS, upd_same, List.map_take, List.map_drop]
    rfl
  · rw [List.length_take, List.length_drop]
    omega
def SizesSp (K : PySem.W.Frag) : Sp := fun vs H Q _ => ∃ S, vs = [.ref S, .int 4] ∧ StAt H S ∧ ∀ w n v H', (4 ≤ w ∧ w ≤ 16) → (1 ≤ n ∧ n ≤ 4) → Bar S H H' → StAt H' S → Rep K H' v (.t [.i w, .i n]) → Q v H'
theorem sc_law_sizes : FnScope ["_law_state", "_law_most"] ["_law_state", "_law_most"] (defScope s_law_sizes) := ⟨rfl, rfl, rfl, by decide +kernel, rfl, by decide +kernel, by decide +kernel⟩
theorem cal_law_sizes (T : Tx w K mg) : Cal P w K mg base 4 "_law_sizes" (SizesSp K) [] := by
  obtain ⟨fd, F⟩ := T.defn (d := d_law_sizes) 52 rfl
  refine ⟨_, fd, ["_law_state", "_law_most"], [], F.ok (k := 3) sc_law_sizes (fun vs H Q E h => ?_) (fun cdv A outer s H vs Q E hr h => ⟨_, PSs.nox (pss_one (ps_ret (pe_tup (pa_cons (pe_op op_add pe_int (pe_c (cal_law_take T) hr (by decide) (by rfl) (pa_cons (pv 0) (pa_cons pe_int pa_nil)))) (pa_cons (pe_op op_add pe_int (pe_c (cal_law_take T) hr (by decide) (by rfl) (pa_cons (pv 0) (pa_cons (pv 1) pa_nil)))) pa_nil))))), ?_⟩), T.glo 52, F.kp, F.bindsN (fun _ _ _ _ _ _ us hl => match us, hl with | [_, _], _ => rfl), .nil⟩
  · obtain ⟨S, rfl, _⟩ := h
    rfl
  obtain ⟨S, rfl, u, q⟩ := h
  have F0 : FrD K H (L2.start ["_law_state", "_law_most"] [.ref S, .int 4]) [some (.v (.ref S)), some (.i 4)] := FrD.start (N := ["_law_state", "_law_most"]) (RepL.vals _)
  refine draw (m := 13) F0 (i := 0) rfl ev_c u ⟨by decide, by decide⟩ fun r1 H1 h1 h2 b1 u1 F1 => ⟨4, r1, rfl, rfl, ?_⟩
  refine draw (m := 4) F1 (i := 0) rfl (ev_var (i := 1) rfl) u1 ⟨by decide, by decide⟩ fun r2 H2 h3 h4 b2 u2 F2 => ⟨1, r2, rfl, rfl, ?_⟩
  refine ⟨by show 2 ≤ sizeLine; decide, fun p hp => ?_⟩
  exact q (4 + r1) (1 + r2) (.ref p) _ ⟨by omega, by omega⟩ ⟨by omega, by omega⟩ ((b1.trans b2).trans (Bar.same (Same.new hp))) (u2.same (Same.new hp)) (.of upd_same (.cons (.v _) (.cons (.v _) .nil)))
theorem sc_law_two_to : FnScope ["_law_many", "_law_found", "_law_k"] ["_law_many"] (defScope s_law_two_to) := ⟨rfl, rfl, rfl, by decide +kernel, rfl, by decide +kernel, by decide +kernel⟩
theorem cal_law_two_to (T : Tx w K mg) : Cal P w K mg base 1 "_law_two_to" (PSp K fun ds r => ∃ m : Int, ds = [.i m] ∧ (0 ≤ m ∧ m ≤ 1000) ∧ r = .i (pw m)) [] := by
  obtain ⟨fd, F⟩ := T.defn (d := d_law_two_to) 54 rfl
  refine ⟨_, fd, ["_law_many"], [], F.ok (k := 0) sc_law_two_to (fun vs H Q E h => psp_len (n := 1) ?_ h) (fun cdv A outer s H vs Q E hr h => ⟨_, PSs.nox (pss_cons (ps_set (i := 1) sc_law_two_to.nd rfl (Or.inl rfl) pe_int) (pss_cons (ps_for PassesOwn.never rfl (pi_range1 rfl (T.free 72) (pa_cons (pv 0) pa_nil)) (pg_name (i := 2) sc_law_two_to.nd rfl (Or.inl rfl)) (pss_one (ps_set (i := 1) sc_law_two_to.nd rfl (Or.inl rfl) (pe_op op_mul pe_int (pv 1))))) (pss_one (ps_ret (pv 1))))), psp_of (N := ["_law_many", "_law_found", "_law_k"]) ?_ h⟩), T.glo 54, F.kp, F.bindsN (fun _ _ _ _ _ _ us hl => match us, hl with | [_], _ => rfl), .nil⟩
  · rintro ds r ⟨m, rfl, _⟩
    rfl
  rintro ds r ⟨m, rfl, hm, rfl⟩ σ H E F0' q
  have F0 : FrD K H σ [some (.i m), none, none] := F0'
  refine st_setC ?_
  have F1 : FrD K H (σ.set 1 (some (.int 1))) [some (.i m), some (.i 1), none] := F0.set (.v _) 1
  refine st_seq (st_dbl (n := m) (by decide) F1 rfl (vat F1 0 rfl) hm fun σ' H' s F' => ?_)
  exact st_ret (vat F' 1 rfl) fun v H2 e2 r2 => q v H2 (s.trans e2) r2
end Ww

set_option Elab.async false
set_option linter.all false
set_option maxRecDepth 100000
set_option maxHeartbeats 4000000
/-! W16e: the law's worth (printed from W16e.src by gen1.py). -/
namespace Ww
open PySem PySem.Spec PyProof.Rows L2
open C8 (Cal CalAt Met Mak pe_c pe_mk pe_mt pe_mt0)
variable {P : Program} {w : World} {K : PySem.W.Frag} {mg : Str → Option Value} {base : Heap}
section
variable {σ : L2.St} {δ : DS} {H : Hp} {E : Ends} {XE : XK} {tm te ta tb : TE} {i a : Nat} {m n : Int} {S : Addr} {x : V} {rr : R2}
theorem st_draw (F : FrD K H σ δ) (hi : δ[i]? = some (some (.v (.ref S)))) (hm : EvD K tm δ (.i m)) (hS : StAt H S) (h : 0 < m ∧ m < 2 ^ 70) (q : ∀ r H2, 0 ≤ r → r < m → Bar S H H2 → StAt H2 S → FrD K H2 (σ.set a (some (.int r))) (δ.set a (some (.i r))) → E.nx (σ.set a (some (.int r))) H2) :
    tAsg (tCall DrawSp [] XE (tCons (tVar i) (tCons tm tNil))) (gName a) E σ H := draw F hi hm hS h fun r H2 h0 h1 b u F2 => q r H2 h0 h1 b u (F2.set (.v _) a)
theorem op_at {Q : VK} (ha : At K ta σ H (.v x)) (q : ∀ H2, Same H H2 → tb σ H2 fun y H3 => rr x y H3 Q) : tOp rr ta tb σ H Q := ha _ fun v H2 e2 r2 => by
  cases r2.val
  exact q H2 e2
theorem ix_draw {Q : VK} {cs : List Int} {j : Nat} (F : FrD K H σ δ) (hj : δ[j]? = some (some (.t (cs.map D.i)))) (hi : δ[i]? = some (some (.v (.ref S)))) (hm : EvD K tm δ (.i (cs.length : Int))) (hS : StAt H S) (h : 0 < cs.length ∧ cs.length < 100) (q : ∀ c H2, c ∈ cs → Bar S H H2 → StAt H2 S → FrD K H2 σ δ → Q (.int c) H2) :
    tOp (rIxT K) (tVar j) (tCall DrawSp [] XE (tCons (tVar i) (tCons tm tNil))) σ H Q := by
  obtain ⟨v, h1, h2⟩ := F.get hj
  obtain ⟨p, vs, rfl, hs, rl⟩ := h2.tup
  refine ⟨_, h1, draw F hi hm hS ⟨by omega, by omega⟩ fun r H2 h0 h1 b u F2 => ?_⟩
  have hk : r.toNat < cs.length := by omega
  have ev : vs = cs.map V.int := RepL.vals_eq (xs := cs.map V.int) (by rw [List.map_map]; exact rl)
  subst ev
  have er : r = ((r.toNat : Nat) : Int) := by omega
  refine ⟨p, _, r, .int cs[r.toNat], rfl, rfl, (hS.stay b).seqT hs, ?_, q _ _ (List.getElem_mem hk) b u F2⟩
  have := atI_nat (xs := cs.map V.int) (j := r.toNat) (v := .int cs[r.toNat]) (by rw [List.getElem?_map, List.getElem?_eq_getElem hk]; rfl)
  rw [← er] at this
  exact this
theorem pw_add {x y : Int} (hx : 0 ≤ x) (hy : 0 ≤ y) : pw (x + y) = pw x * pw y := by
  rw [pw_eq, pw_eq, pw_eq, ← Int.natCast_mul, ← Nat.pow_add]
  have e : (x + y).toNat = x.toNat + y.toNat := by omega
  rw [e]
theorem pw_le {x y : Int} (h : x ≤ y) : pw x ≤ pw y := by
  rw [pw_eq, pw_eq]
  exact Int.ofNat_le.mpr (Nat.pow_le_pow_right (by decide) (by omega))
theorem pw_lt' {x : Int} {b : Nat} (h : x.toNat < b) : pw x < 2 ^ b := by
  have h1 := pw_lt h
  have h2 := pw_pos x
  have e : ((2 ^ b : Nat) : Int) = 2 ^ b := by rw [Int.natCast_pow]; rfl
  have h3 : ((pw x).natAbs : Int) < ((2 ^ b : Nat) : Int) := Int.ofNat_lt.mpr h1
  rw [e] at h3
  omega
end
def WorthSp : Sp := fun vs H Q _ => ∃ S w n, vs = [.ref S, .int w, .int n] ∧ (4 ≤ w ∧ w ≤ 16) ∧ (1 ≤ n ∧ n ≤ 4) ∧ StAt H S ∧ ∀ r H', 0 ≤ r → r < pw (w * n) → Bar S H H' → StAt H' S → Q (.int r) H'
theorem sc_law_worth : FnScope ["_law_state", "_law_w", "_law_n", "_law_way", "_law_top", "_law_k", "_law_edges", "_law_any_one", "_law_wide", "_law_worth_here", "_law_low", "_law_some", "_law_words"] ["_law_state", "_law_w", "_law_n"] (defScope s_law_worth) := ⟨rfl, rfl, rfl, by decide +kernel, rfl, by decide +kernel, by decide +kernel⟩
theorem cal_law_worth (T : Tx w K mg) : Cal P w K mg base 4 "_law_worth" WorthSp [] := by
  obtain ⟨fd, F⟩ := T.defn (d := d_law_worth) 53 rfl
  refine ⟨_, fd, ["_law_state", "_law_w", "_law_n"], [], F.ok (k := 3) sc_law_worth (fun vs H Q E h => ?_) (fun cdv A outer s H vs Q E hr h => ⟨_, PSs.nox (pss_cons (ps_set (i := 3) sc_law_worth.nd rfl (Or.inl rfl) (pe_c (cal_law_take T) hr (by decide) (by rfl) (pa_cons (pv 0) (pa_cons pe_int pa_nil)))) (pss_cons (ps_set (i := 4) sc_law_worth.nd rfl (Or.inl rfl) pe_int) (pss_cons (ps_for PassesOwn.never rfl (pi_range1 rfl (T.free 72) (pa_cons (pe_op op_mul (pv 1) (pv 2)) pa_nil)) (pg_name (i := 5) sc_law_worth.nd rfl (Or.inl rfl)) (pss_one (ps_set (i := 4) sc_law_worth.nd rfl (Or.inl rfl) (pe_op op_mul pe_int (pv 4))))) (pss_cons (ps_set (i := 6) sc_law_worth.nd rfl (Or.inl rfl) (pe_tup (pa_cons pe_int (pa_cons pe_int (pa_cons (pe_op op_sub (pv 4) pe_int) (pa_cons (pe_op op_fdivW (pv 4) pe_int) (pa_cons (pe_op op_sub (pe_op op_fdivW (pv 4) pe_int) pe_int) (pa_cons (pe_op op_sub (pv 4) pe_int) pa_nil)))))))) (pss_cons (ps_if (pt_cmpR op_lt (pv 3) pe_int (nomark _)) (pss_one (ps_ret (pe_ix ix_tup (pv 6) (pv 3) (fun _ _ => rfl)))) pss_nil) (pss_cons (ps_set (i := 7) sc_law_worth.nd rfl (Or.inl rfl) (pe_c (cal_law_take T) hr (by decide) (by rfl) (pa_cons (pv 0) (pa_cons (pv 4) pa_nil)))) (pss_cons (ps_if (pt_cmpR op_eq (pv 3) pe_int (nomark _)) (pss_cons (ps_set (i := 10) sc_law_worth.nd rfl (Or.inl rfl) pe_int) (pss_cons (ps_for PassesOwn.never rfl (pi_range1 rfl (T.free 72) (pa_cons (pe_c (cal_law_take T) hr (by decide) (by rfl) (pa_cons (pv 0) (pa_cons (pe_op op_mul (pv 1) (pv 2)) pa_nil))) pa_nil)) (pg_name (i := 5) sc_law_worth.nd rfl (Or.inl rfl)) (pss_one (ps_set (i := 10) sc_law_worth.nd rfl (Or.inl rfl) (pe_op op_mul pe_int (pv 10))))) (pss_one (ps_ret (pe_op op_mul (pe_op op_fdivW (pv 7) (pv 10)) (pv 10)))))) pss_nil) (pss_cons (ps_if (pt_cmpR op_eq (pv 3) pe_int (nomark _)) (pss_cons (ps_set (i := 10) sc_law_worth.nd rfl (Or.inl rfl) pe_int) (pss_cons (ps_for PassesOwn.never rfl (pi_range1 rfl (T.free 72) (pa_cons (pe_c (cal_law_take T) hr (by decide) (by rfl) (pa_cons (pv 0) (pa_cons (pe_op op_mul (pv 1) (pv 2)) pa_nil))) pa_nil)) (pg_name (i := 5) sc_law_worth.nd rfl (Or.inl rfl)) (pss_one (ps_set (i := 10) sc_law_worth.nd rfl (Or.inl rfl) (pe_op op_mul pe_int (pv 10))))) (pss_one (ps_ret (pe_op op_sub (pv 4) (pv 10)))))) pss_nil) (pss_cons (ps_if (pt_cmpR op_gt (pv 3) pe_int (nomark _)) (pss_one (ps_ret (pv 7))) pss_nil) (pss_cons (ps_set (i := 8) sc_law_worth.nd rfl (Or.inl rfl) pe_int) (pss_cons (ps_for PassesOwn.never rfl (pi_range1 rfl (T.free 72) (pa_cons (pv 1) pa_nil)) (pg_name (i := 5) sc_law_worth.nd rfl (Or.inl rfl)) (pss_one (ps_set (i := 8) sc_law_worth.nd rfl (Or.inl rfl) (pe_op op_mul pe_int (pv 8))))) (pss_cons (ps_set (i := 9) sc_law_worth.nd rfl (Or.inl rfl) pe_int) (pss_cons (ps_for PassesOwn.never rfl (pi_range1 rfl (T.free 72) (pa_cons (pv 2) pa_nil)) (pg_name (i := 5) sc_law_worth.nd rfl (Or.inl rfl)) (pss_cons (ps_set (i := 11) sc_law_worth.nd rfl (Or.inl rfl) (pe_op op_mod (pe_op op_fdivW (pv 7) (pe_op op_add (pv 5) pe_int)) (pv 8))) (pss_cons (ps_set (i := 12) sc_law_worth.nd rfl (Or.inl rfl) (pe_tup (pa_cons pe_int (pa_cons pe_int (pa_cons (pe_op op_sub (pv 8) pe_int) (pa_cons (pe_op op_fdivW (pv 8) pe_int) (pa_cons (pv 11) pa_nil))))))) (pss_one (ps_set (i := 9) sc_law_worth.nd rfl (Or.inl rfl) (pe_op op_add (pe_op op_mul (pv 9) (pv 8)) (pe_ix ix_tup (pv 12) (pe_c (cal_law_take T) hr (by decide) (by rfl) (pa_cons (pv 0) (pa_cons pe_int pa_nil))) (fun _ _ => rfl)))))))) (pss_one (ps_ret (pv 9)))))))))))))))), ?_⟩), T.glo 53, F.kp, F.bindsN (fun _ _ _ _ _ _ us hl => match us, hl with | [_, _, _], _ => rfl), .nil⟩
  · obtain ⟨S, w, n, rfl, _⟩ := h
    rfl
  obtain ⟨S, w, n, rfl, hw, hn, u0, q⟩ := h
  have hfit : fits w n := ⟨⟨by omega, by omega⟩, by omega, by omega⟩
  have hN4 : 4 ≤ w * n := by
    have : w * 1 ≤ w * n := Int.mul_le_mul_of_nonneg_left hn.1 (by omega)
    omega
  have hN64 : w * n ≤ 64 := by
    have h1 : w * n ≤ w * 4 := Int.mul_le_mul_of_nonneg_left hn.2 (by omega)
    omega
  have ht16 : 16 ≤ pw (w * n) := by
    have : pw 4 ≤ pw (w * n) := pw_le hN4
    exact this
  have ht70 : pw (w * n) < 2 ^ 70 := pw_lt' (by omega)
  have F0 : FrD K H (L2.start ["_law_state", "_law_w", "_law_n", "_law_way", "_law_top", "_law_k", "_law_edges", "_law_any_one", "_law_wide", "_law_worth_here", "_law_low", "_law_some", "_law_words"] [.ref S, .int w, .int n]) [some (.v (.ref S)), some (.i w), some (.i n), none, none, none, none, none, none, none, none, none, none] := FrD.start (N := ["_law_state", "_law_w", "_law_n", "_law_way", "_law_top", "_law_k", "_law_edges", "_law_any_one", "_law_wide", "_law_worth_here", "_law_low", "_law_some", "_law_words"]) (RepL.vals _)
  generalize L2.start ["_law_state", "_law_w", "_law_n", "_law_way", "_law_top", "_law_k", "_law_edges", "_law_any_one", "_law_wide", "_law_worth_here", "_law_low", "_law_some", "_law_words"] [.ref S, .int w, .int n] = σ at F0 ⊢
  refine st_seq (st_draw (m := 12) F0 (i := 0) rfl ev_c u0 ⟨by decide, by decide⟩ fun way H1 hy0 hy1 b1 u1 F1 => ?_)
  refine st_setC ?_
  have F2 : FrD K H1 _ [some (.v (.ref S)), some (.i w), some (.i n), some (.i way), some (.i 1), none, none, none, none, none, none, none, none] := F1.set (v := .int 1) (.v _) 4
  refine st_seq (st_dbl (n := w * n) (by decide) F2 rfl (at_mulI (vat F2 1 rfl) (fun H2 e2 => vat (F2.same e2) 2 rfl) (fits_cmul hfit)) ⟨by omega, by omega⟩ fun σ3 H3 s3 F3' => ?_)
  have F3 : FrD K H3 σ3 [some (.v (.ref S)), some (.i w), some (.i n), some (.i way), some (.i (pw (w * n))), none, none, none, none, none, none, none, none] := F3'
  have u3 := u1.same s3
  have b3 := b1.trans (Bar.same s3)
  revert F3 ht16 ht70
  generalize htt : pw (w * n) = t at q ⊢
  intro ht16 ht70 F3
  refine st_seq (st_set (d := .t ([0, 1, t - 1, t / 2, t / 2 - 1, t - 2].map D.i)) (at_tup (ds := [.i 0, .i 1, .i (t - 1), .i (t / 2), .i (t / 2 - 1), .i (t - 2)]) (ata_cons at_c fun H4 e4 => ata_cons at_c fun H5 e5 => ata_cons (at_subI (vat ((F3.same e4).same e5) 4 rfl) fun _ _ => at_c) fun H6 e6 => ata_cons (at_divI (vat (((F3.same e4).same e5).same e6) 4 rfl) (fun _ _ => at_c) div2) fun H7 e7 => ata_cons (at_subI (at_divI (vat ((((F3.same e4).same e5).same e6).same e7) 4 rfl) (fun _ _ => at_c) div2) fun _ _ => at_c) fun H8 e8 => ata_cons (at_subI (vat (((((F3.same e4).same e5).same e6).same e7).same e8) 4 rfl) fun _ _ => at_c) fun _ _ => ata_nil) (by show 6 ≤ 100000; decide)) fun v4 H4 e4 r4 => ?_)
  have F4 : FrD K H4 _ [some (.v (.ref S)), some (.i w), some (.i n), some (.i way), some (.i t), none, some (.t ([0, 1, t - 1, t / 2, t / 2 - 1, t - 2].map D.i)), none, none, none, none, none, none] := (F3.same e4).set r4 6
  have u4 := u3.same e4
  have b4 := b3.trans (Bar.same e4)
  clear F3 u3 b3 F3' F2 F1 u1 b1 F0
  refine st_ifS (att_test (at_ltB (n := way) (m := 6) (vat F4 3 rfl) (fun _ _ => at_c) rfl)) (fun hb H5 e5 => ?_) fun hb H5 e5 => ?_
  · have h6 : way < 6 := of_decide_eq_true hb
    have F5 := F4.same e5
    have hk : way.toNat < [0, 1, t - 1, t / 2, t / 2 - 1, t - 2].length := by show way.toNat < 6; omega
    have ew : way = ((way.toNat : Nat) : Int) := by omega
    rw [ew] at F5
    refine st_ret (at_of F5 (at_idx F5 (ev_var (i := 6) rfl) (ev_var (i := 3) rfl) hk)) fun v H6 e6 r6 => ?_
    cases r6.val
    have hmem := List.getElem_mem hk
    have hin : ∀ z ∈ [0, 1, t - 1, t / 2, t / 2 - 1, t - 2], 0 ≤ z ∧ z < t := by
      intro z hz
      simp only [List.mem_cons, List.not_mem_nil, or_false] at hz
      omega
    exact q _ H6 (hin _ hmem).1 (hin _ hmem).2 (b4.trans (Bar.same (e5.trans e6))) (u4.same (e5.trans e6))
  have F5 := F4.same e5
  have u5 := u4.same e5
  have b5 := b4.trans (Bar.same e5)
  clear F4 u4 b4
  refine st_seq (st_draw (m := t) F5 (i := 0) rfl (ev_var (i := 4) rfl) u5 ⟨by omega, ht70⟩ fun y H6 hy0 hy1 b6' u6 F6' => ?_)
  have F6 : FrD K H6 _ [some (.v (.ref S)), some (.i w), some (.i n), some (.i way), some (.i t), none, some (.t ([0, 1, t - 1, t / 2, t / 2 - 1, t - 2].map D.i)), some (.i y), none, none, none, none, none] := F6'
  have b6 := b5.trans b6'
  clear F5 u5 b5 b6' F6'
  -- low, by a draw
  have low : ∀ (E' : L2.Ends) (σ : L2.St) (H7 : Hp) (u : L2.TS), Bar S H H7 → StAt H7 S → FrD K H7 σ [some (.v (.ref S)), some (.i w), some (.i n), some (.i way), some (.i t), none, some (.t ([0, 1, t - 1, t / 2, t / 2 - 1, t - 2].map D.i)), some (.i y), none, none, none, none, none] →
      (∀ (σ' : L2.St) (H8 : Hp) (l : Int), 0 < l → l < 2 ^ 64 → l ≤ t → Bar S H H8 → StAt H8 S → FrD K H8 σ' [some (.v (.ref S)), some (.i w), some (.i n), some (.i way), some (.i t), none, some (.t ([0, 1, t - 1, t / 2, t / 2 - 1, t - 2].map D.i)), some (.i y), none, none, some (.i l), none, none] → u E' σ' H8) →
      tSeq (tAsg (tC (.int 1)) (gName 10)) (tSeq (tFor (iRng1 (tCons (tCall DrawSp [] E0 (tCons (tVar 0) (tCons (tOp (rI CMul fun i j => .int (i * j)) (tVar 1) (tVar 2)) tNil))) tNil)) (gName 5) (tAsg (tOp (rI CMul fun i j => .int (i * j)) (tC (.int 2)) (tVar 10)) (gName 10))) u) E' σ H7 := by
    intro E' σ H7 u b7 u7 F7 k
    refine st_setC ?_
    have F8 : FrD K H7 (σ.set 10 (some (.int 1))) [some (.v (.ref S)), some (.i w), some (.i n), some (.i way), some (.i t), none, some (.t ([0, 1, t - 1, t / 2, t / 2 - 1, t - 2].map D.i)), some (.i y), none, none, some (.i 1), none, none] := F7.set (.v _) 10
    refine st_seq (for_at (draw (m := w * n) F8 (i := 0) rfl (ev_int (g := fun i j => .int (i * j)) (ev_var (i := 1) rfl) (ev_var (i := 2) rfl) (fits_cmul hfit)) u7 ⟨by omega, by omega⟩ fun r H9 h0 h1 b9 u9 F9 => ?_))
    refine st_dbl (n := r) (by decide) F9 rfl at_c ⟨by omega, by omega⟩ fun σ10 H10 s10 F10 => ?_
    refine k σ10 H10 (pw r) (pw_pos r) (pw_lt' (by omega)) ?_ ((b7.trans b9).trans (Bar.same s10)) (u9.same s10) F10
    rw [← htt]
    exact pw_le (by omega)
  refine st_ifS (att_test (at_eq (x := .int way) (y := .int 6) (vat F6 3 rfl) (fun _ _ => at_c) rfl)) (fun hb H7 e7 => ?_) fun hb H7 e7 => ?_
  · refine low _ _ H7 _ (b6.trans (Bar.same e7)) (u6.same e7) (F6.same e7) fun σ8 H8 l hl0 hl1 hlt b8 u8 F8 => ?_
    refine st_ret (at_mulI (at_divI (vat F8 7 rfl) (fun H9 e9 => vat (F8.same e9) 10 rfl) (wide_div hl0 (b := 64) (by omega) (by decide) (by decide))) (fun H9 e9 => vat (F8.same e9) 10 rfl) (cmulR ⟨by omega, by omega⟩)) fun v H9 e9 r9 => ?_
    cases r9.val
    have h1 : y / l * l ≤ y := Int.ediv_mul_le y (by omega)
    have h2 : 0 ≤ y / l * l := Int.mul_nonneg (Int.ediv_nonneg hy0 (by omega)) (by omega)
    exact q _ H9 h2 (by omega) (b8.trans (Bar.same e9)) (u8.same e9)
  replace F6 := F6.same e7
  replace u6 := u6.same e7
  replace b6 := b6.trans (Bar.same e7)
  refine st_ifS (att_test (at_eq (x := .int way) (y := .int 7) (vat F6 3 rfl) (fun _ _ => at_c) rfl)) (fun hb H7 e7 => ?_) fun hb H7 e7 => ?_
  · refine low _ _ H7 _ (b6.trans (Bar.same e7)) (u6.same e7) (F6.same e7) fun σ8 H8 l hl0 hl1 hlt b8 u8 F8 => ?_
    refine st_ret (at_subI (vat F8 4 rfl) fun H9 e9 => vat (F8.same e9) 10 rfl) fun v H9 e9 r9 => ?_
    cases r9.val
    exact q _ H9 (by omega) (by omega) (b8.trans (Bar.same e9)) (u8.same e9)
  replace F6 := F6.same e7
  replace u6 := u6.same e7
  replace b6 := b6.trans (Bar.same e7)
  refine st_ifS (att_test (at_gtB (n := way) (m := 9) (vat F6 3 rfl) (fun _ _ => at_c) rfl)) (fun hb H7 e7 => ?_) fun hb H7 e7 => ?_
  · refine st_ret (vat (F6.same e7) 7 rfl) fun v H8 e8 r8 => ?_
    cases r8.val
    exact q _ H8 hy0 hy1 (b6.trans (Bar.same (e7.trans e8))) (u6.same (e7.trans e8))
  replace F6 := F6.same e7
  replace u6 := u6.same e7
  replace b6 := b6.trans (Bar.same e7)
  clear low
  refine st_setC ?_
  have F7 : FrD K H7 _ [some (.v (.ref S)), some (.i w), some (.i n), some (.i way), some (.i t), none, some (.t ([0, 1, t - 1, t / 2, t / 2 - 1, t - 2].map D.i)), some (.i y), some (.i 1), none, none, none, none] := F6.set (v := .int 1) (.v _) 8
  refine st_seq (st_dbl (n := w) (by decide) F7 rfl (vat F7 1 rfl) ⟨by omega, by omega⟩ fun σ8 H8 s8 F8' => ?_)
  have hp0 := pw_pos w
  have hp16 : 16 ≤ pw w := by
    have : pw 4 ≤ pw w := pw_le (by omega)
    exact this
  have hp64 : pw w < 2 ^ 64 := pw_lt' (by omega)
  refine st_setC ?_
  have F9 : FrD K H8 (σ8.set 9 (some (.int 0))) [some (.v (.ref S)), some (.i w), some (.i n), some (.i way), some (.i t), none, some (.t ([0, 1, t - 1, t / 2, t / 2 - 1, t - 2].map D.i)), some (.i y), some (.i (pw w)), some (.i 0), none, none, none] := F8'.set (v := .int 0) (.v _) 9
  have u9 := u6.same s8
  have b9 := b6.trans (Bar.same s8)
  clear F7 F8' F6 u6 b6
  refine st_seq (st_forR (n := n) (fun k σ' H' => Bar S H H' ∧ StAt H' S ∧ ∃ z : Int, 0 ≤ z ∧ z < pw (w * (k : Nat)) ∧ FrD K H' σ' [some (.v (.ref S)), some (.i w), some (.i n), some (.i way), some (.i t), none, some (.t ([0, 1, t - 1, t / 2, t / 2 - 1, t - 2].map D.i)), some (.i y), some (.i (pw w)), some (.i z), none, none, none])
    (vat F9 2 rfl) (by omega) (by omega) (fun H10 e10 => ⟨b9.trans (Bar.same e10), u9.same e10, 0, by decide, by rw [show w * ((0 : Nat) : Int) = 0 from Int.mul_zero w]; decide, F9.same e10⟩) ?_ ?_)
  · rintro k σ' H' hk ⟨b', u', z, hz0, hz1, F'⟩
    have F10 : FrD K H' (σ'.set 5 (some (.int (k : Nat)))) [some (.v (.ref S)), some (.i w), some (.i n), some (.i way), some (.i t), some (.i (k : Nat)), some (.t ([0, 1, t - 1, t / 2, t / 2 - 1, t - 2].map D.i)), some (.i y), some (.i (pw w)), some (.i z), none, none, none] := F'.set (.v _) 5
    refine st_seq (st_set (d := .i (y / ((k : Int) + 1) % pw w)) (at_modI (at_divI (vat F10 7 rfl) (fun H11 e11 => at_addI (vat (F10.same e11) 5 rfl) fun _ _ => at_c) (wide_div (by omega) (b := 64) (by omega) (by decide) (by decide))) (fun H11 e11 => vat (F10.same e11) 8 rfl) hp0) fun v11 H11 e11 r11 => ?_)
    have F11 := (F10.same e11).set r11 11
    have u11 := u'.same e11
    have b11 := b'.trans (Bar.same e11)
    have hs0 := Int.emod_nonneg (y / ((k : Int) + 1)) (show pw w ≠ 0 by omega)
    have hs1 := Int.emod_lt_of_pos (y / ((k : Int) + 1)) hp0
    revert F11 hs0 hs1
    generalize y / ((k : Int) + 1) % pw w = sm
    intro F11 hs0 hs1
    refine st_seq (st_set (d := .t ([0, 1, pw w - 1, pw w / 2, sm].map D.i)) (at_tup (ds := [.i 0, .i 1, .i (pw w - 1), .i (pw w / 2), .i sm]) (ata_cons at_c fun H4 e4 => ata_cons at_c fun H5 e5 => ata_cons (at_subI (vat ((F11.same e4).same e5) 8 rfl) fun _ _ => at_c) fun H6 e6 => ata_cons (at_divI (vat (((F11.same e4).same e5).same e6) 8 rfl) (fun _ _ => at_c) div2) fun H7 e7 => ata_cons (vat ((((F11.same e4).same e5).same e6).same e7) 11 rfl) fun _ _ => ata_nil) (by show 5 ≤ 100000; decide)) fun v12 H12 e12 r12 => ?_)
    have F12 : FrD K H12 _ [some (.v (.ref S)), some (.i w), some (.i n), some (.i way), some (.i t), some (.i (k : Nat)), some (.t ([0, 1, t - 1, t / 2, t / 2 - 1, t - 2].map D.i)), some (.i y), some (.i (pw w)), some (.i z), none, some (.i sm), some (.t ([0, 1, pw w - 1, pw w / 2, sm].map D.i))] := (F11.same e12).set r12 12
    have u12 := u11.same e12
    have b12 := b11.trans (Bar.same e12)
    refine op_at (at_mulI (vat F12 9 rfl) (fun H13 e13 => vat (F12.same e13) 8 rfl) (cmulR ⟨by omega, by omega⟩)) fun H13 e13 => ?_
    refine ix_draw (cs := [0, 1, pw w - 1, pw w / 2, sm]) (i := 0) (j := 12) (F12.same e13) rfl rfl ev_c (u12.same e13) ⟨by show 0 < 5; decide, by show 5 < 100; decide⟩ fun c H14 hc b14 u14 F14 => ?_
    refine ⟨_, _, rfl, rfl, ?_⟩
    have hc2 : 0 ≤ c ∧ c < pw w := by
      simp only [List.mem_cons, List.not_mem_nil, or_false] at hc
      omega
    have hzw : z * pw w + pw w ≤ pw (w * (k : Nat)) * pw w := by
      have h1 : (z + 1) * pw w ≤ pw (w * (k : Nat)) * pw w := Int.mul_le_mul_of_nonneg_right (by omega) (by omega)
      rw [Int.add_mul, Int.one_mul] at h1
      exact h1
    have hz0' : 0 ≤ z * pw w := Int.mul_nonneg hz0 (by omega)
    have ek : pw (w * ((k + 1 : Nat) : Int)) = pw (w * (k : Nat)) * pw w := by
      have e : w * ((k + 1 : Nat) : Int) = w * (k : Nat) + w := by
        rw [Int.natCast_succ, Int.mul_add, Int.mul_one]
      rw [e, pw_add (Int.mul_nonneg (by omega) (by omega)) (by omega)]
    refine ⟨(b12.trans (Bar.same e13)).trans b14, u14, z * pw w + c, by omega, by rw [ek]; omega, ?_⟩
    exact (((F14.set (v := .int (z * pw w + c)) (d := .i (z * pw w + c)) (.v _) 9).forget 5).forget 11).forget 12
  · rintro σ' H' ⟨b', u', z, hz0, hz1, F'⟩
    refine st_ret (vat F' 9 rfl) fun v H10 e10 r10 => ?_
    cases r10.val
    have e : ((n.toNat : Nat) : Int) = n := by omega
    rw [e, htt] at hz1
    exact q z H10 hz0 hz1 (b'.trans (Bar.same e10)) (u'.same e10)
end Ww

set_option Elab.async false
set_option linter.all false
set_option maxRecDepth 100000
set_option maxHeartbeats 4000000
/-! W16f: told (printed from W16f.src by gen1.py). -/
namespace Ww
open PySem PySem.Spec PyProof.Rows L2
open C8 (Cal CalAt Met Mak pe_c pe_mk pe_mt pe_mt0)
variable {P : Program} {w : World} {K : PySem.W.Frag} {mg : Str → Option Value} {base : Heap}
def foldW (W : Int) (l : List Int) : Int := l.foldl (fun acc a => acc * W + a) 0
def answer (d : Deed) (w n x y : Int) : List Int := (List.range n.toNat).map fun j => (ranS d w n x y).f "c" (j : Nat)
def told (d : Deed) (w n x y : Int) : Int := foldW (pw w) (answer d w n x y).reverse
def markOf (d : Deed) (w n x y : Int) (j : Nat) : Int := (ranS d w n x y).f "m" (j : Nat)
def marksD (d : Deed) (w n x y : Int) : D := .t [.i (markOf d w n x y 0), .i (markOf d w n x y 1), .i (markOf d w n x y 2), .i (markOf d w n x y 3)]
def runOk (d : Deed) (w n x y : Int) : Prop := goodD d y ∧ fits w n ∧ (0 ≤ x ∧ x < pw (w * n)) ∧ (0 ≤ y ∧ y < pw (w * n)) ∧ tellOk w n d.tell
def toldA (ds : List D) (r : D) : Prop := ∃ (d : Deed) (w n x y : Int), ds = [d.d, .i w, .i n, .i x, .i y] ∧ runOk d w n x y ∧ r = .t [.i (told d w n x y), marksD d w n x y]
theorem at_rev {σ : L2.St} {H : Hp} {te : TE} {xs : List Int} (h : At K te σ H (.t (xs.map D.i))) : At K (tRevT K te) σ H (.t (xs.reverse.map D.i)) := fun Q q =>
  h _ fun v H1 e1 r1 => by
    obtain ⟨a, vs, rfl, hs, rl⟩ := r1.tup
    have ev : vs = xs.map V.int := RepL.vals_eq (xs := xs.map V.int) (by rw [List.map_map]; exact rl)
    subst ev
    refine ⟨a, _, rfl, hs, fun p hp => q _ _ (e1.trans (Same.new hp)) (.of upd_same ?_)⟩
    rw [← List.map_reverse]
    exact RepL.ints _
theorem sc_law_told : FnScope ["_law_deed", "_law_w", "_law_n", "_law_x", "_law_y", "_law_found", "_law_worth_here", "_law_part"] ["_law_deed", "_law_w", "_law_n", "_law_x", "_law_y"] (defScope s_law_told) := ⟨rfl, rfl, rfl, by decide +kernel, rfl, by decide +kernel, by decide +kernel⟩
theorem cal_law_told (T : Tx w K mg) : Cal P w K mg base 14 "_law_told" (PSp K toldA) [] := by
  obtain ⟨fd, F⟩ := T.defn (d := d_law_told) 55 rfl
  refine ⟨_, fd, ["_law_deed", "_law_w", "_law_n", "_law_x", "_law_y"], [], F.ok (k := 13) sc_law_told (fun vs H Q E h => psp_len (n := 5) ?_ h) (fun cdv A outer s H vs Q E hr h => ⟨_, PSs.nox (pss_cons (ps_set (i := 5) sc_law_told.nd rfl (Or.inl rfl) (pe_c (cal_ran T) hr (by decide) (by rfl) (pa_cons (pv 0) (pa_cons (pv 1) (pa_cons (pv 2) (pa_cons (pv 3) (pa_cons (pv 4) pa_nil))))))) (pss_cons (ps_set (i := 6) sc_law_told.nd rfl (Or.inl rfl) pe_int) (pss_cons (ps_for PassesOwn.never rfl (pi_tup (pe_revT (pe_ix ix_tup (pv 5) pe_int (fun _ _ => rfl)))) (pg_name (i := 7) sc_law_told.nd rfl (Or.inl rfl)) (pss_one (ps_set (i := 6) sc_law_told.nd rfl (Or.inl rfl) (pe_op op_add (pe_op op_mul (pv 6) (pe_c (cal_law_two_to T) hr (by decide) (by rfl) (pa_cons (pv 1) pa_nil))) (pv 7))))) (pss_one (ps_ret (pe_tup (pa_cons (pv 6) (pa_cons (pe_ix ix_tup (pv 5) pe_int (fun _ _ => rfl)) pa_nil)))))))), psp_of (N := ["_law_deed", "_law_w", "_law_n", "_law_x", "_law_y", "_law_found", "_law_worth_here", "_law_part"]) ?_ h⟩), T.glo 55, F.kp, F.bindsN (fun _ _ _ _ _ _ us hl => match us, hl with | [_, _, _, _, _], _ => rfl), .nil⟩
  · rintro ds r ⟨d, w, n, x, y, rfl, _⟩
    rfl
  rintro ds r ⟨d, w, n, x, y, rfl, hok, rfl⟩ σ H E F0' q
  have F0 : FrD K H σ [some d.d, some (.i w), some (.i n), some (.i x), some (.i y), none, none, none] := F0'
  obtain ⟨h1, h2, h3, h4, h5⟩ := hok
  refine st_seq (st_set (d := ranD d w n x y) (at_of F0 (ev_call (ea_cons (ev_var (i := 0) rfl) (ea_cons (ev_var (i := 1) rfl) (ea_cons (ev_var (i := 2) rfl) (ea_cons (ev_var (i := 3) rfl) (ea_cons (ev_var (i := 4) rfl) ea_nil))))) ⟨d, w, n, x, y, rfl, h1, h2, h3, h4, h5, rfl⟩)) fun v1 H1 e1 r1 => ?_)
  have ea : (List.range n.toNat).map (fun j => D.i ((ranS d w n x y).f "c" (j : Nat))) = (answer d w n x y).map D.i := by
    unfold answer
    rw [List.map_map]
    rfl
  have er : ranD d w n x y = .t [.t ((answer d w n x y).map D.i), .t [], marksD d w n x y] := by
    unfold ranD
    rw [ea]
    rfl
  rw [er] at r1
  have F1 : FrD K H1 (σ.set 5 (some v1)) [some d.d, some (.i w), some (.i n), some (.i x), some (.i y), some (.t [.t ((answer d w n x y).map D.i), .t [], marksD d w n x y]), none, none] := (F0.same e1).set r1 5
  refine st_setC ?_
  have F2 : FrD K H1 ((σ.set 5 (some v1)).set 6 (some (.int 0))) [some d.d, some (.i w), some (.i n), some (.i x), some (.i y), some (.t [.t ((answer d w n x y).map D.i), .t [], marksD d w n x y]), some (.i 0), none] := F1.set (.v _) 6
  have hw := h2.1
  have hp64 : pw w < 2 ^ 64 := pw_lt' (by omega)
  have hp0 := pw_pos w
  refine st_seq (st_forT (ds := (answer d w n x y).reverse.map D.i) (fun H2 k σ' H' => Same H2 H' ∧ FrD K H' σ' [some d.d, some (.i w), some (.i n), some (.i x), some (.i y), some (.t [.t ((answer d w n x y).map D.i), .t [], marksD d w n x y]), some (.i (foldW (pw w) ((answer d w n x y).reverse.take k))), none])
    (at_rev (at_of F2 (ev_ixn (n := 0) (ev_var (i := 5) rfl) rfl))) (fun H2 e2 => ⟨Same.refl _, F2.same e2⟩) (fun H2 k σ' H' e2 z => Stay.same z.1) ?_ ?_)
  · rintro H2 k dd v σ' H' e2 hd rd ⟨s, F'⟩
    rw [List.getElem?_map] at hd
    obtain ⟨a, ha, rfl⟩ := Option.map_eq_some_iff.mp hd
    have F3 : FrD K H' (σ'.set 7 (some v)) [some d.d, some (.i w), some (.i n), some (.i x), some (.i y), some (.t [.t ((answer d w n x y).map D.i), .t [], marksD d w n x y]), some (.i (foldW (pw w) ((answer d w n x y).reverse.take k))), some (.i a)] := F'.set rd 7
    refine st_set (d := .i (foldW (pw w) ((answer d w n x y).reverse.take k) * pw w + a)) (at_addI (at_mulI (vat F3 6 rfl) (fun H4 e4 => at_of (F3.same e4) (ev_call (ea_cons (ev_var (i := 1) rfl) ea_nil) ⟨w, rfl, ⟨hw.1, by omega⟩, rfl⟩)) (cmulR ⟨by omega, by omega⟩)) fun H4 e4 => vat (F3.same e4) 7 rfl) fun v4 H4 e4 r4 => ?_
    have ef : foldW (pw w) ((answer d w n x y).reverse.take (k + 1)) = foldW (pw w) ((answer d w n x y).reverse.take k) * pw w + a := by
      unfold foldW
      rw [List.take_add_one, ha, List.foldl_append]
      rfl
    refine ⟨s.trans e4, ?_⟩
    rw [ef]
    exact ((F3.same e4).set r4 6).forget 7
  · rintro H2 σ' H' e2 ⟨s, F'⟩
    rw [List.length_map, List.take_length] at F'
    refine st_ret (at_tup (ds := [.i (told d w n x y), marksD d w n x y]) (ata_cons (vat F' 6 rfl) fun H3 e3 => ata_cons (at_of (F'.same e3) (ev_ixn (n := 2) (ev_var (i := 5) rfl) rfl)) fun _ _ => ata_nil) (by show 2 ≤ 100000; decide)) fun v3 H3 e3 r3 => ?_
    exact q v3 H3 (e1.trans (e2.trans (s.trans e3))) r3
/-! ### t[2:], and tuples of numbers compared -/
theorem cut2 {a b : V} {vs : List V} : cutV (a :: b :: vs) (some 2) none = vs := by
  unfold cutV
  have e1 : HT.sIx (a :: b :: vs).length 0 (some 2) = 2 := by
    show (if (2 : Int) < 0 then ((2 : Int) + ((vs.length + 1 + 1 : Nat) : Int)).toNat else min (2 : Int).toNat (vs.length + 1 + 1)) = 2
    rw [if_neg (by omega)]
    show min 2 (vs.length + 1 + 1) = 2
    omega
  rw [e1]
  show (vs.take ((vs.length + 1 + 1) - 2)) = vs
  rw [show (vs.length + 1 + 1) - 2 = vs.length by omega, List.take_length]
theorem ev_slice2 {δ : DS} {te : TE} {d e : D} {ds : List D} (h : EvD K te δ (.t (d :: e :: ds))) : EvD K (tSl (rSlA K) te (tPart (tC (.int 2))) tNoPart) δ (.t ds) := fun σ H Q F q =>
  h σ H _ F fun v H1 e1 r1 => by
    obtain ⟨p, vs, rfl, hs, rl⟩ := r1.tup
    cases rl with
    | @cons v0 _ vs0 _ h0 rl0 =>
      cases rl0 with
      | @cons v1 _ vs1 _ h1 rl1 =>
        refine ⟨2, rfl, p, _, rfl, hs, fun hw => ?_, fun _ l hl => ?_⟩
        · have e1 : HT.sIx (v0 :: v1 :: vs1).length 0 (some 2) = 2 := by
            show (if (2 : Int) < 0 then ((2 : Int) + ((vs1.length + 1 + 1 : Nat) : Int)).toNat else min (2 : Int).toNat (vs1.length + 1 + 1)) = 2
            rw [if_neg (by omega)]
            show min 2 (vs1.length + 1 + 1) = 2
            omega
          rw [e1] at hw
          exact absurd hw.1 (by omega)
        · rw [cut2]
          exact q _ _ (e1.trans (Same.new hl)) (.of upd_same (rl1.same (Same.new hl)))
theorem dp_ints {H : Hp} : ∀ ns : List Int, DpAll K H (ns.map V.int) (ns.map PyData.int)
  | [] => .nil
  | _ :: r => .cons (.int _) (dp_ints r)
theorem ev_neT {δ : DS} {ta tb : TE} {ns : List Int} (ha : EvD K ta δ (.t (ns.map D.i))) (hb : EvD K tb δ (.t (ns.map D.i))) (hv : PyData.eqv (.tuple (ns.map PyData.int)) (.tuple (ns.map PyData.int)) = true) (hs : SeqAt.shaped (.tuple (ns.map PyData.int)) = true) : EvD K (tOp (rNeD K) ta tb) δ (.b false) := fun σ H Q F q =>
  ha σ H _ F fun v H1 e1 r1 => hb σ H1 _ (F.same e1) fun u H2 e2 r2 => by
    have up : ∀ {H : Hp} {v : V}, Rep K H v (.t (ns.map D.i)) → Dp K H v (.tuple (ns.map PyData.int)) := fun {H v} r => by
      obtain ⟨a, vs, rfl, hs, rl⟩ := r.tup
      have ev : vs = ns.map V.int := RepL.vals_eq (xs := ns.map V.int) (by rw [List.map_map]; exact rl)
      subst ev
      exact .tup hs (dp_ints ns)
    refine ⟨_, _, up (r1.same e2), up r2, hs, hs, ?_⟩
    rw [hv]
    exact q _ H2 (e1.trans e2) (.v _)
end Ww

set_option Elab.async false
set_option linter.all false
set_option maxRecDepth 100000
set_option maxHeartbeats 4000000
/-! W16g: the law, over the plain facts (printed from W16g.src by gen1.py). -/
namespace Ww
open PySem PySem.Spec PyProof.Rows L2
open C8 (Cal CalAt Met Mak pe_c pe_mk pe_mt pe_mt0)
variable {P : Program} {w : World} {K : PySem.W.Frag} {mg : Str → Option Value} {base : Heap}
def lowOf (w n x s : Int) : Int := told (.shift .right s) w n x 0
def highOf (w n x s : Int) : Int := told (.shift .left (w * n - s)) w n x 0
def rollOf (w n x s : Int) : Int := told (.shift .roll (w * n - s)) w n x 0
/-- what the law asks, plainly -/
structure Plain (w n x s : Int) : Prop where
  okS : runOk .sum w n x x
  okL : runOk (.shift .left 1) w n x 0
  e0 : told (.shift .left 1) w n x 0 = told .sum w n x x
  m0 : markOf (.shift .left 1) w n x 0 0 = markOf .sum w n x x 0
  m2 : markOf (.shift .left 1) w n x 0 2 = markOf .sum w n x x 2
  m3 : markOf (.shift .left 1) w n x 0 3 = markOf .sum w n x x 3
  okLow : runOk (.shift .right s) w n x 0
  okHigh : runOk (.shift .left (w * n - s)) w n x 0
  okB : runOk .both w n (lowOf w n x s) (highOf w n x s)
  eB : told .both w n (lowOf w n x s) (highOf w n x s) = 0
  okR : runOk (.shift .roll (w * n - s)) w n x 0
  okA : runOk .any w n (lowOf w n x s) (highOf w n x s)
  eA : told .any w n (lowOf w n x s) (highOf w n x s) = rollOf w n x s
  okS2 : runOk .sum w n (lowOf w n x s) (highOf w n x s)
  eS2 : told .sum w n (lowOf w n x s) (highOf w n x s) = rollOf w n x s
  okD : runOk (.shift .down s) w n x 0
  eD : told (.shift .down s) w n x 0 = lowOf w n x s + (if pw (w * n) ≤ 2 * x then pw (w * n) - pw (w * n - s) else 0)
def PlainAll : Prop := ∀ w n x s : Int, (4 ≤ w ∧ w ≤ 16) → (1 ≤ n ∧ n ≤ 4) → (0 ≤ x ∧ x < pw (w * n)) → (1 ≤ s ∧ s < w * n) → Plain w n x s
theorem rn_ifT {δ δ' : DS} {tt : TT} {t u : L2.TS} (hc : EvT K tt δ true) (h : RunN K t δ δ') : RunN K (tIfS tt t u) δ δ' := fun σ H E F q => hc σ H _ F fun H1 e1 => iteT (h σ H1 E (F.same e1) fun σ2 H2 e2 F2 => q σ2 H2 (e1.trans e2) F2)
theorem st_setQ {σ : L2.St} {H : Hp} {E : Ends} {te : TE} {i : Nat} (h : te σ H fun v H1 => E.nx (σ.set i (some v)) H1) : tAsg te (gName i) E σ H := h
theorem g_pair {σ : L2.St} {H : Hp} {v : V} {d1 d2 : D} {a b : Nat} {R : L2.St → Hp → Prop} (h : Rep K H v (.t [d1, d2])) (q : ∀ x y, Rep K H x d1 → Rep K H y d2 → R ((σ.set a (some x)).set b (some y)) H) : gTup K 2 (gCons (gName a) (gCons (gName b) gNil)) v σ H R := by
  obtain ⟨p, us, rfl, hq, rq⟩ := h.tup
  cases rq with
  | cons r1 rq =>
    cases rq with
    | cons r2 rq =>
      cases rq
      exact ⟨p, _, rfl, hq, rfl, _, _, rfl, _, _, rfl, rfl, q _ _ r1 r2⟩
theorem eqv2 (a b : Int) : PyData.eqv (.tuple ([a, b].map PyData.int)) (.tuple ([a, b].map PyData.int)) = true := PySem.SeqAt.eqv_refl _ rfl
def LawSp (K : PySem.W.Frag) : Sp := fun vs H Q _ => ∃ (p : Addr) (ns : List Int), vs = [.ref p] ∧ SqL K H p (ns.map V.int) ∧ ns.length ≤ 100000 ∧ ∀ H', Q (.bl true) H'
theorem sc_law : FnScope ["_law_script", "_law_state", "_law_size", "_law_top", "_law_x", "_law_s", "_law_double", "_law_left", "_law_low", "_law_high", "_law_rolled", "_law_ones_ahead", "_law_w", "_law_n"] ["_law_script"] (defScope s_law) := ⟨rfl, rfl, rfl, by decide +kernel, rfl, by decide +kernel, by decide +kernel⟩
theorem ev_told {δ : DS} {te tw tn tx ty : TE} {XE : XK} {d : Deed} {w n x y : Int} (hd : EvD K te δ d.d) (hw : EvD K tw δ (.i w)) (hn : EvD K tn δ (.i n)) (hx : EvD K tx δ (.i x)) (hy : EvD K ty δ (.i y)) (ok : runOk d w n x y) :
    EvD K (tCall (PSp K toldA) [] XE (tCons te (tCons tw (tCons tn (tCons tx (tCons ty tNil)))))) δ (.t [.i (told d w n x y), marksD d w n x y]) := ev_call (ea_cons hd (ea_cons hw (ea_cons hn (ea_cons hx (ea_cons hy ea_nil))))) ⟨d, w, n, x, y, rfl, ok, rfl⟩
theorem law_ok (PA : PlainAll) (T : Tx w K mg) : ∃ fd, FunD K "law" "law" (defArgs s_law) (defBody s_law) (defScope s_law) [] [] (He.ga K "law") fd ∧ ∀ (P : Program) (base : Heap), FnOk P w K mg base C8.CX0 15 (He.ga K "law") fd ["_law_script"] (LawSp K) := by
  obtain ⟨fd, F⟩ := T.defn (d := d_law) 56 rfl
  refine ⟨fd, F, fun P base => F.ok (k := 14) sc_law (fun vs H Q E h => ?_) (fun cdv A outer s H vs Q E hr h => ⟨_, PSs.nox (pss_cons (ps_set (i := 1) sc_law.nd rfl (Or.inl rfl) (pe_c (cal_law_fresh T) hr (by decide) (by rfl) (pa_cons (pv 0) pa_nil))) (pss_cons (ps_asg (pe_c (cal_law_sizes T) hr (by decide) (by rfl) (pa_cons (pv 1) (pa_cons pe_int pa_nil))) (pg_tup rfl (pgs_cons (pg_name (i := 12) sc_law.nd rfl (Or.inl rfl)) (pgs_cons (pg_name (i := 13) sc_law.nd rfl (Or.inl rfl)) pgs_nil)))) (pss_cons (ps_set (i := 2) sc_law.nd rfl (Or.inl rfl) (pe_op op_mul (pv 12) (pv 13))) (pss_cons (ps_set (i := 3) sc_law.nd rfl (Or.inl rfl) (pe_c (cal_law_two_to T) hr (by decide) (by rfl) (pa_cons (pv 2) pa_nil))) (pss_cons (ps_set (i := 4) sc_law.nd rfl (Or.inl rfl) (pe_c (cal_law_worth T) hr (by decide) (by rfl) (pa_cons (pv 1) (pa_cons (pv 12) (pa_cons (pv 13) pa_nil))))) (pss_cons (ps_set (i := 5) sc_law.nd rfl (Or.inl rfl) (pe_op op_add pe_int (pe_c (cal_law_take T) hr (by decide) (by rfl) (pa_cons (pv 1) (pa_cons (pe_op op_sub (pv 2) pe_int) pa_nil))))) (pss_cons (ps_set (i := 6) sc_law.nd rfl (Or.inl rfl) (pe_c (cal_law_told T) hr (by decide) (by rfl) (pa_cons (pe_tup (pa_cons pe_str pa_nil)) (pa_cons (pv 12) (pa_cons (pv 13) (pa_cons (pv 4) (pa_cons (pv 4) pa_nil))))))) (pss_cons (ps_set (i := 7) sc_law.nd rfl (Or.inl rfl) (pe_c (cal_law_told T) hr (by decide) (by rfl) (pa_cons (pe_tup (pa_cons pe_str (pa_cons pe_int pa_nil))) (pa_cons (pv 12) (pa_cons (pv 13) (pa_cons (pv 4) (pa_cons pe_int pa_nil))))))) (pss_cons (ps_if (PW.pt (pw_or (pt_cmpR op_ne (pe_ix ix_tup (pv 7) pe_int (fun _ _ => rfl)) (pe_ix ix_tup (pv 6) pe_int (fun _ _ => rfl)) (nomark _)) (pw_or (pt_cmpR op_ne (pe_ix ix_tup (pe_ix ix_tup (pv 7) pe_int (fun _ _ => rfl)) pe_int (fun _ _ => rfl)) (pe_ix ix_tup (pe_ix ix_tup (pv 6) pe_int (fun _ _ => rfl)) pe_int (fun _ _ => rfl)) (nomark _)) (pw_or1 (pt_cmpR (op_neD hr.units) (pe_slice sl_tupA (pe_ix ix_tup (pv 7) pe_int (fun _ _ => rfl)) (po_some pe_int) po_none) (pe_slice sl_tupA (pe_ix ix_tup (pv 6) pe_int (fun _ _ => rfl)) (po_some pe_int) po_none) (nomark _)))))) (pss_one (ps_ret pe_bl)) pss_nil) (pss_cons (ps_set (i := 8) sc_law.nd rfl (Or.inl rfl) (pe_ix ix_tup (pe_c (cal_law_told T) hr (by decide) (by rfl) (pa_cons (pe_tup (pa_cons pe_str (pa_cons (pv 5) pa_nil))) (pa_cons (pv 12) (pa_cons (pv 13) (pa_cons (pv 4) (pa_cons pe_int pa_nil)))))) pe_int (fun _ _ => rfl))) (pss_cons (ps_set (i := 9) sc_law.nd rfl (Or.inl rfl) (pe_ix ix_tup (pe_c (cal_law_told T) hr (by decide) (by rfl) (pa_cons (pe_tup (pa_cons pe_str (pa_cons (pe_op op_sub (pv 2) (pv 5)) pa_nil))) (pa_cons (pv 12) (pa_cons (pv 13) (pa_cons (pv 4) (pa_cons pe_int pa_nil)))))) pe_int (fun _ _ => rfl))) (pss_cons (ps_if (pt_cmpR op_ne (pe_ix ix_tup (pe_c (cal_law_told T) hr (by decide) (by rfl) (pa_cons (pe_tup (pa_cons pe_str pa_nil)) (pa_cons (pv 12) (pa_cons (pv 13) (pa_cons (pv 8) (pa_cons (pv 9) pa_nil)))))) pe_int (fun _ _ => rfl)) pe_int (nomark _)) (pss_one (ps_ret pe_bl)) pss_nil) (pss_cons (ps_set (i := 10) sc_law.nd rfl (Or.inl rfl) (pe_ix ix_tup (pe_c (cal_law_told T) hr (by decide) (by rfl) (pa_cons (pe_tup (pa_cons pe_str (pa_cons (pe_op op_sub (pv 2) (pv 5)) pa_nil))) (pa_cons (pv 12) (pa_cons (pv 13) (pa_cons (pv 4) (pa_cons pe_int pa_nil)))))) pe_int (fun _ _ => rfl))) (pss_cons (ps_if (PW.pt (pw_or (pt_cmpR op_ne (pe_ix ix_tup (pe_c (cal_law_told T) hr (by decide) (by rfl) (pa_cons (pe_tup (pa_cons pe_str pa_nil)) (pa_cons (pv 12) (pa_cons (pv 13) (pa_cons (pv 8) (pa_cons (pv 9) pa_nil)))))) pe_int (fun _ _ => rfl)) (pv 10) (nomark _)) (pw_or1 (pt_cmpR op_ne (pe_ix ix_tup (pe_c (cal_law_told T) hr (by decide) (by rfl) (pa_cons (pe_tup (pa_cons pe_str pa_nil)) (pa_cons (pv 12) (pa_cons (pv 13) (pa_cons (pv 8) (pa_cons (pv 9) pa_nil)))))) pe_int (fun _ _ => rfl)) (pv 10) (nomark _))))) (pss_one (ps_ret pe_bl)) pss_nil) (pss_cons (ps_set (i := 11) sc_law.nd rfl (Or.inl rfl) pe_int) (pss_cons (ps_if (pt_cmpR op_ge (pe_op op_mul pe_int (pv 4)) (pv 3) (nomark _)) (pss_one (ps_set (i := 11) sc_law.nd rfl (Or.inl rfl) (pe_op op_sub (pv 3) (pe_c (cal_law_two_to T) hr (by decide) (by rfl) (pa_cons (pe_op op_sub (pv 2) (pv 5)) pa_nil))))) pss_nil) (pss_one (ps_ret (pe_cmpR op_eq (pe_ix ix_tup (pe_c (cal_law_told T) hr (by decide) (by rfl) (pa_cons (pe_tup (pa_cons pe_str (pa_cons (pv 5) pa_nil))) (pa_cons (pv 12) (pa_cons (pv 13) (pa_cons (pv 4) (pa_cons pe_int pa_nil)))))) pe_int (fun _ _ => rfl)) (pe_op op_add (pv 8) (pv 11)) (nomark _)))))))))))))))))))), ?_⟩)⟩
  · obtain ⟨p, ns, rfl, _⟩ := h
    rfl
  obtain ⟨p, ns, rfl, hs, hz, q⟩ := h
  have F0 : FrD K H (L2.start ["_law_script", "_law_state", "_law_size", "_law_top", "_law_x", "_law_s", "_law_double", "_law_left", "_law_low", "_law_high", "_law_rolled", "_law_ones_ahead", "_law_w", "_law_n"] [.ref p]) [some (.v (.ref p)), none, none, none, none, none, none, none, none, none, none, none, none, none] := FrD.start (N := ["_law_script", "_law_state", "_law_size", "_law_top", "_law_x", "_law_s", "_law_double", "_law_left", "_law_low", "_law_high", "_law_rolled", "_law_ones_ahead", "_law_w", "_law_n"]) (RepL.vals _)
  generalize L2.start ["_law_script", "_law_state", "_law_size", "_law_top", "_law_x", "_law_s", "_law_double", "_law_left", "_law_low", "_law_high", "_law_rolled", "_law_ones_ahead", "_law_w", "_law_n"] [.ref p] = σ at F0 ⊢
  refine st_seq (st_callQ (ata_of F0 (ea_cons (ev_var (i := 0) rfl) ea_nil)) fun vs H1 e1 rl => ?_)
  have evs : vs = [.ref p] := RepL.vals_eq (xs := [.ref p]) rl
  subst evs
  refine ⟨p, ns, rfl, e1.seq hs, hz, fun S H2 hS e2 u2 => ?_⟩
  have F2 : FrD K H2 (σ.set 1 (some (.ref S))) [some (.v (.ref p)), some (.v (.ref S)), none, none, none, none, none, none, none, none, none, none, none, none] := ((F0.same e1).same e2).set (.v _) 1
  refine st_seq (st_callS (ata_of F2 (ea_cons (ev_var (i := 1) rfl) (ea_cons ev_c ea_nil))) fun vs H3 e3 rl => ?_)
  have evs : vs = [.ref S, .int 4] := RepL.vals_eq (xs := [.ref S, .int 4]) rl
  subst evs
  refine ⟨S, rfl, u2.same e3, fun w n v H4 hw hn b4 u4 r4 => g_pair r4 fun v1 v2 r1 r2 => ?_⟩
  have F4 : FrD K H4 (((σ.set 1 (some (.ref S))).set 12 (some v1)).set 13 (some v2)) [some (.v (.ref p)), some (.v (.ref S)), none, none, none, none, none, none, none, none, none, none, some (.i w), some (.i n)] := (((F2.same e3).mono ((u2.same e3).stay b4)).set r1 12).set r2 13
  have hfit : fits w n := ⟨⟨by omega, by omega⟩, by omega, by omega⟩
  have hN4 : 4 ≤ w * n := by
    have : w * 1 ≤ w * n := Int.mul_le_mul_of_nonneg_left hn.1 (by omega)
    omega
  have hN64 : w * n ≤ 64 := by
    have h1 : w * n ≤ w * 4 := Int.mul_le_mul_of_nonneg_left hn.2 (by omega)
    omega
  refine st_seq (st_set (d := .i (w * n)) (at_mulI (vat F4 12 rfl) (fun H2 e2 => vat (F4.same e2) 13 rfl) (fits_cmul hfit)) fun v5 H5 e5 r5 => ?_)
  have F5 := (F4.same e5).set r5 2
  refine st_seq (st_set (d := .i (pw (w * n))) (at_of F5 (ev_call (ea_cons (ev_var (i := 2) rfl) ea_nil) ⟨w * n, rfl, ⟨by omega, by omega⟩, rfl⟩)) fun v6 H6 e6 r6 => ?_)
  have F6 := (F5.same e6).set r6 3
  have u6 := (u4.same e5).same e6
  refine st_seq (st_callQ (ata_of F6 (ea_cons (ev_var (i := 1) rfl) (ea_cons (ev_var (i := 12) rfl) (ea_cons (ev_var (i := 13) rfl) ea_nil)))) fun vs H7 e7 rl => ?_)
  have evs : vs = [.ref S, .int w, .int n] := RepL.vals_eq (xs := [.ref S, .int w, .int n]) rl
  subst evs
  refine ⟨S, w, n, rfl, hw, hn, u6.same e7, fun x H8 hx0 hx1 b8 u8 => ?_⟩
  have F8 := ((F6.same e7).mono ((u6.same e7).stay b8)).set (v := .int x) (d := .i x) (.v _) 4
  refine st_seq (st_setQ (op_c (draw (m := w * n - 1) F8 (i := 1) rfl (ev_int0 (g := fun i j => .int (i - j)) (ev_var (i := 2) rfl) ev_c) u8 ⟨by omega, by omega⟩ fun r H9 hr0 hr1 b9 u9 F9 => ⟨1, r, rfl, rfl, ?_⟩)))
  have PL := PA w n x (1 + r) hw hn ⟨hx0, hx1⟩ ⟨by omega, by omega⟩
  have F10 := F9.set (v := .int (1 + r)) (d := .i (1 + r)) (.v _) 5
  have F11 : FrD K H9 _ [some (.v (.ref p)), some (.v (.ref S)), some (.i (w * n)), some (.i (pw (w * n))), some (.i x), some (.i (1 + r)), none, none, none, none, none, none, some (.i w), some (.i n)] := F10
  have dd : ∀ {σ : L2.St} {H : Hp} {t : L2.TS}, FrD K H σ [some (.v (.ref p)), some (.v (.ref S)), some (.i (w * n)), some (.i (pw (w * n))), some (.i x), some (.i (1 + r)), none, none, none, none, none, none, some (.i w), some (.i n)] → RunS K t [some (.v (.ref p)), some (.v (.ref S)), some (.i (w * n)), some (.i (pw (w * n))), some (.i x), some (.i (1 + r)), none, none, none, none, none, none, some (.i w), some (.i n)] (.b true) → t { nx := fun _ H' => Q .non H', rt := Q } σ H := fun F R => R _ _ _ F fun v H2 e2 r2 => by
    cases r2.val
    exact q H2
  show tSeq _ _ _ _ _
  refine dd F11 ?_
  refine rs_set (ev_told (d := .sum) (ev_tup (ea_cons ev_c ea_nil)) (ev_var (i := 12) rfl) (ev_var (i := 13) rfl) (ev_var (i := 4) rfl) (ev_var (i := 4) rfl) PL.okS) ?_
  refine rs_set (ev_told (d := .shift .left 1) (ev_tup (ea_cons ev_c (ea_cons ev_c ea_nil))) (ev_var (i := 12) rfl) (ev_var (i := 13) rfl) (ev_var (i := 4) rfl) ev_c PL.okL) ?_
  refine rs_skip (et_or (et_test (ev_neB (b := true) (ev_ixn (n := 0) (ev_var (i := 7) rfl) rfl) (ev_ixn (n := 0) (ev_var (i := 6) rfl) rfl) (decide_eq_true (congrArg V.int PL.e0)))) (et_or (et_test (ev_neB (b := true) (ev_ixn (n := 0) (ev_ixn (n := 1) (ev_var (i := 7) rfl) rfl) rfl) (ev_ixn (n := 0) (ev_ixn (n := 1) (ev_var (i := 6) rfl) rfl) rfl) (decide_eq_true (congrArg V.int PL.m0))))
    (et_test (ev_neT (ns := [markOf .sum w n x x 2, markOf .sum w n x x 3]) (ev_is (ev_slice2 (ev_ixn (n := 1) (ev_var (i := 7) rfl) rfl)) (by rw [PL.m2, PL.m3]; rfl)) (ev_slice2 (ev_ixn (n := 1) (ev_var (i := 6) rfl) rfl)) (eqv2 _ _) rfl)))) ?_
  refine rs_set (ev_ixn (n := 0) (ev_told (d := .shift .right (1 + r)) (ev_tup (ea_cons ev_c (ea_cons (ev_var (i := 5) rfl) ea_nil))) (ev_var (i := 12) rfl) (ev_var (i := 13) rfl) (ev_var (i := 4) rfl) ev_c PL.okLow) rfl) ?_
  refine rs_set (ev_ixn (n := 0) (ev_told (d := .shift .left (w * n - (1 + r))) (ev_tup (ea_cons ev_c (ea_cons (ev_int0 (g := fun i j => .int (i - j)) (ev_var (i := 2) rfl) (ev_var (i := 5) rfl)) ea_nil))) (ev_var (i := 12) rfl) (ev_var (i := 13) rfl) (ev_var (i := 4) rfl) ev_c PL.okHigh) rfl) ?_
  refine rs_skip (et_test (ev_neB (b := true) (ev_ixn (n := 0) (ev_told (d := .both) (ev_tup (ea_cons ev_c ea_nil)) (ev_var (i := 12) rfl) (ev_var (i := 13) rfl) (ev_var (i := 8) rfl) (ev_var (i := 9) rfl) PL.okB) rfl) ev_c (decide_eq_true (congrArg V.int PL.eB)))) ?_
  refine rs_set (ev_ixn (n := 0) (ev_told (d := .shift .roll (w * n - (1 + r))) (ev_tup (ea_cons ev_c (ea_cons (ev_int0 (g := fun i j => .int (i - j)) (ev_var (i := 2) rfl) (ev_var (i := 5) rfl)) ea_nil))) (ev_var (i := 12) rfl) (ev_var (i := 13) rfl) (ev_var (i := 4) rfl) ev_c PL.okR) rfl) ?_
  refine rs_skip (et_or (et_test (ev_neB (b := true) (ev_ixn (n := 0) (ev_told (d := .any) (ev_tup (ea_cons ev_c ea_nil)) (ev_var (i := 12) rfl) (ev_var (i := 13) rfl) (ev_var (i := 8) rfl) (ev_var (i := 9) rfl) PL.okA) rfl) (ev_var (i := 10) rfl) (decide_eq_true (congrArg V.int PL.eA)))) (et_test (ev_neB (b := true) (ev_ixn (n := 0) (ev_told (d := .sum) (ev_tup (ea_cons ev_c ea_nil)) (ev_var (i := 12) rfl) (ev_var (i := 13) rfl) (ev_var (i := 8) rfl) (ev_var (i := 9) rfl) PL.okS2) rfl) (ev_var (i := 10) rfl) (decide_eq_true (congrArg V.int PL.eS2))))) ?_
  refine rs_set (i := 11) (d := .i 0) ev_c ?_
  by_cases hc : pw (w * n) ≤ 2 * x
  · have hD : told (.shift .down (1 + r)) w n x 0 = lowOf w n x (1 + r) + (pw (w * n) - pw (w * n - (1 + r))) := by rw [PL.eD, if_pos hc]
    refine rs_then (rn_ifT (et_test (ev_geB (n := 2 * x) (m := pw (w * n)) (b := true) (ev_int (g := fun i j => .int (i * j)) ev_c (ev_var (i := 4) rfl) (cmulL ⟨by decide, by decide⟩)) (ev_var (i := 3) rfl) (decide_eq_true hc))) (rn_set (i := 11) (d := .i (pw (w * n) - pw (w * n - (1 + r)))) (ev_int0 (g := fun i j => .int (i - j)) (ev_var (i := 3) rfl) (ev_call (ea_cons (ev_int0 (g := fun i j => .int (i - j)) (ev_var (i := 2) rfl) (ev_var (i := 5) rfl)) ea_nil) ⟨w * n - (1 + r), rfl, ⟨by omega, by omega⟩, rfl⟩)))) ?_
    exact rs_ret (ev_eqB (b := true) (ev_ixn (n := 0) (ev_told (d := .shift .down (1 + r)) (ev_tup (ea_cons ev_c (ea_cons (ev_var (i := 5) rfl) ea_nil))) (ev_var (i := 12) rfl) (ev_var (i := 13) rfl) (ev_var (i := 4) rfl) ev_c PL.okD) rfl) (ev_int0 (g := fun i j => .int (i + j)) (ev_var (i := 8) rfl) (ev_var (i := 11) rfl)) (decide_eq_true (congrArg V.int hD)))
  · have hD : told (.shift .down (1 + r)) w n x 0 = lowOf w n x (1 + r) + 0 := by rw [PL.eD, if_neg hc]
    refine rs_then (rn_skip (et_test (ev_geB (n := 2 * x) (m := pw (w * n)) (b := false) (ev_int (g := fun i j => .int (i * j)) ev_c (ev_var (i := 4) rfl) (cmulL ⟨by decide, by decide⟩)) (ev_var (i := 3) rfl) (decide_eq_false hc)))) ?_
    exact rs_ret (ev_eqB (b := true) (ev_ixn (n := 0) (ev_told (d := .shift .down (1 + r)) (ev_tup (ea_cons ev_c (ea_cons (ev_var (i := 5) rfl) ea_nil))) (ev_var (i := 12) rfl) (ev_var (i := 13) rfl) (ev_var (i := 4) rfl) ev_c PL.okD) rfl) (ev_int0 (g := fun i j => .int (i + j)) (ev_var (i := 8) rfl) (ev_var (i := 11) rfl)) (decide_eq_true (congrArg V.int hD)))
end Ww

set_option Elab.async false
set_option linter.all false
set_option maxRecDepth 100000
set_option maxHeartbeats 1000000
/-! WP1: numbers as words: values, carries (no program in sight). -/
namespace Ww
/-- the value of the first n words -/
def val (W : Int) (c : Int → Int) : Nat → Int
  | 0 => 0
  | n + 1 => val W c n + c n * W ^ n
def words (W : Int) (c : Int → Int) (n : Nat) : Prop := ∀ j : Nat, j < n → 0 ≤ c j ∧ c j < W
theorem powI_pos {W : Int} (h : 0 < W) (n : Nat) : 0 < W ^ n := Int.pow_pos h
theorem val_nonneg {W : Int} {c : Int → Int} (hW : 0 < W) : ∀ {n : Nat}, words W c n → 0 ≤ val W c n
  | 0, _ => Int.le_refl _
  | n + 1, h => by
    have ih := val_nonneg (n := n) hW fun j hj => h j (by omega)
    have h1 := (h n (by omega)).1
    have h2 := Int.mul_nonneg h1 (Int.le_of_lt (powI_pos hW n))
    show 0 ≤ val W c n + c n * W ^ n
    omega
theorem val_lt {W : Int} {c : Int → Int} (hW : 0 < W) : ∀ {n : Nat}, words W c n → val W c n < W ^ n
  | 0, _ => by
    show (0 : Int) < W ^ 0
    rw [Int.pow_zero]
    decide
  | n + 1, h => by
    have ih := val_lt (n := n) hW fun j hj => h j (by omega)
    have h1 := (h n (by omega)).2
    have h2 : (c n + 1) * W ^ n ≤ W * W ^ n := Int.mul_le_mul_of_nonneg_right (by omega) (Int.le_of_lt (powI_pos hW n))
    rw [Int.add_mul, Int.one_mul] at h2
    show val W c n + c n * W ^ n < W ^ (n + 1)
    rw [Int.pow_succ, Int.mul_comm (W ^ n) W]
    omega
theorem val_congr {W : Int} {c e : Int → Int} : ∀ {n : Nat}, (∀ j : Nat, j < n → c j = e j) → val W c n = val W e n
  | 0, _ => rfl
  | n + 1, h => by
    show val W c n + c n * W ^ n = val W e n + e n * W ^ n
    rw [val_congr (n := n) fun j hj => h j (by omega), h n (by omega)]
/-- words of a number -/
theorem val_cut {W x : Int} {c : Int → Int} : ∀ {n : Nat}, (∀ j : Nat, j < n → c j = wordAt W x j) → val W c n + W ^ n * cutW W x n = x
  | 0, _ => by
    show 0 + W ^ 0 * x = x
    rw [Int.pow_zero, Int.one_mul, Int.zero_add]
  | n + 1, h => by
    have ih := val_cut (n := n) fun j hj => h j (by omega)
    have hc := h n (by omega)
    show val W c n + c n * W ^ n + W ^ (n + 1) * (cutW W x n / W) = x
    rw [hc]
    unfold wordAt
    have h2 := Int.emod_add_mul_ediv (cutW W x n) W
    have e : cutW W x n % W * W ^ n + W ^ (n + 1) * (cutW W x n / W) = W ^ n * cutW W x n := by
      have e2 : W ^ n * (cutW W x n % W + W * (cutW W x n / W)) = W ^ n * cutW W x n := by rw [h2]
      rw [← e2, Int.mul_add, Int.pow_succ, Int.mul_assoc, Int.mul_comm (cutW W x n % W)]
    omega
theorem cutW_nonneg {W x : Int} (hW : 0 < W) (hx : 0 ≤ x) : ∀ k : Nat, 0 ≤ cutW W x k
  | 0 => hx
  | k + 1 => Int.ediv_nonneg (cutW_nonneg hW hx k) (Int.le_of_lt hW)
theorem val_of {W x : Int} {c : Int → Int} {n : Nat} (hW : 0 < W) (hx : 0 ≤ x) (hx2 : x < W ^ n) (h : ∀ j : Nat, j < n → c j = wordAt W x j) : val W c n = x := by
  have h1 := val_cut h
  have hw : words W c n := fun j hj => by
    rw [h j hj]
    exact word_in hW
  have h2 := val_nonneg hW hw
  have h3 := cutW_nonneg hW hx n
  have hp := powI_pos hW n
  rcases Int.lt_or_le 0 (cutW W x n) with h4 | h4
  · have h5 : W ^ n * 1 ≤ W ^ n * cutW W x n := Int.mul_le_mul_of_nonneg_left (by omega) (Int.le_of_lt hp)
    omega
  · have h5 : cutW W x n = 0 := by omega
    rw [h5, Int.mul_zero] at h1
    omega
/-! ### upward, with a carry -/
def cy (W : Int) (u : Int → Int) (g : Int) : Nat → Int
  | 0 => g
  | k + 1 => (u k + cy W u g k) / W
theorem cy_val {W : Int} {u c : Int → Int} {g : Int} : ∀ {n : Nat}, (∀ j : Nat, j < n → c j = (u j + cy W u g j) % W) → val W c n + W ^ n * cy W u g n = val W u n + g
  | 0, _ => by
    show 0 + W ^ 0 * g = 0 + g
    rw [Int.pow_zero, Int.one_mul]
  | n + 1, h => by
    have ih := cy_val (n := n) fun j hj => h j (by omega)
    have hc := h n (by omega)
    show val W c n + c n * W ^ n + W ^ (n + 1) * ((u n + cy W u g n) / W) = val W u n + u n * W ^ n + g
    rw [hc]
    have h2 := Int.emod_add_mul_ediv (u n + cy W u g n) W
    have e : (u n + cy W u g n) % W * W ^ n + W ^ (n + 1) * ((u n + cy W u g n) / W) = W ^ n * u n + W ^ n * cy W u g n := by
      have e2 : W ^ n * ((u n + cy W u g n) % W + W * ((u n + cy W u g n) / W)) = W ^ n * (u n + cy W u g n) := by rw [h2]
      rw [← Int.mul_add, ← e2, Int.mul_add, Int.pow_succ, Int.mul_assoc, Int.mul_comm ((u n + cy W u g n) % W)]
    rw [Int.mul_comm (u n)]
    omega
theorem cy_bit {W : Int} {u : Int → Int} {g : Int} (hW : 0 < W) (hg : 0 ≤ g ∧ g ≤ 1) : ∀ {n : Nat}, (∀ j : Nat, j < n → 0 ≤ u j ∧ u j ≤ 2 * (W - 1)) → 0 ≤ cy W u g n ∧ cy W u g n ≤ 1
  | 0, _ => hg
  | n + 1, h => by
    have ih := cy_bit hW hg (n := n) fun j hj => h j (by omega)
    have h1 := h n (by omega)
    refine ⟨Int.ediv_nonneg (by omega) (by omega), ?_⟩
    have : (u n + cy W u g n) / W < 2 := Int.ediv_lt_of_lt_mul hW (by omega)
    show (u n + cy W u g n) / W ≤ 1
    omega
theorem val_add {W : Int} {a b : Int → Int} : ∀ n : Nat, val W (fun j => a j + b j) n = val W a n + val W b n
  | 0 => rfl
  | n + 1 => by
    show val W _ n + (a n + b n) * W ^ n = val W a n + a n * W ^ n + (val W b n + b n * W ^ n)
    rw [val_add n, Int.add_mul]
    omega
theorem val_two {W : Int} {a : Int → Int} : ∀ n : Nat, val W (fun j => 2 * a j) n = 2 * val W a n
  | 0 => rfl
  | n + 1 => by
    show val W _ n + (2 * a n) * W ^ n = 2 * (val W a n + a n * W ^ n)
    rw [val_two n, Int.mul_assoc]
    omega
/-! ### downward -/
theorem half_val {W : Int} {a c : Int → Int} (he : 2 * (W / 2) = W) : ∀ {n : Nat}, (∀ j : Nat, j < n → c j = a j / 2 + a (j + 1 : Nat) % 2 * (W / 2)) → 2 * val W c n + a 0 % 2 = val W a n + a n % 2 * W ^ n
  | 0, _ => by
    show 2 * 0 + a 0 % 2 = 0 + a ((0 : Nat) : Int) % 2 * W ^ 0
    rw [Int.pow_zero, Int.mul_one]
    rfl
  | n + 1, h => by
    have ih := half_val he (n := n) fun j hj => h j (by omega)
    have hc := h n (by omega)
    show 2 * (val W c n + c n * W ^ n) + a 0 % 2 = val W a n + a n * W ^ n + a (n + 1 : Nat) % 2 * W ^ (n + 1)
    have e : 2 * (c n * W ^ n) + a n % 2 * W ^ n = a n * W ^ n + a (n + 1 : Nat) % 2 * W ^ (n + 1) := by
      have e1 : 2 * (a n / 2) + a n % 2 = a n := by omega
      have e2 : a (n + 1 : Nat) % 2 * W ^ (n + 1) = 2 * (a (n + 1 : Nat) % 2 * (W / 2)) * W ^ n := by
        rw [Int.pow_succ, Int.mul_comm (W ^ n) W, ← Int.mul_assoc]
        have e3 : 2 * (a (n + 1 : Nat) % 2 * (W / 2)) = a (n + 1 : Nat) % 2 * W := by
          rw [Int.mul_comm (a (n + 1 : Nat) % 2), ← Int.mul_assoc, he, Int.mul_comm]
        rw [e3]
      rw [hc, e2]
      have e4 : 2 * ((a n / 2 + a (n + 1 : Nat) % 2 * (W / 2)) * W ^ n) = (2 * (a n / 2)) * W ^ n + 2 * (a (n + 1 : Nat) % 2 * (W / 2)) * W ^ n := by
        rw [← Int.mul_assoc, Int.mul_add, Int.add_mul]
      rw [e4]
      have e5 : (2 * (a n / 2)) * W ^ n + a n % 2 * W ^ n = a n * W ^ n := by
        rw [← Int.add_mul, e1]
      omega
    omega
end Ww

set_option Elab.async false
set_option linter.all false
set_option maxRecDepth 100000
set_option maxHeartbeats 1000000
/-! WP2: what rows do to cells (no program in sight). -/
namespace Ww
def MS.get (s : MS) (l : Lt) (q : Int) : Int := s.f l.str q
theorem lt_inj {l m : Lt} (h : l.str = m.str) : l = m := by
  cases l <;> cases m <;> first | rfl | exact absurd h (by decide)
theorem get_put (s : MS) (c : Cl Int) (v : Int) (l : Lt) (q : Int) : (s.put c v).get l q = if l = c.l ∧ q = c.p then v else s.get l q := by
  show (if l.str = c.l.str ∧ q = c.p then v else s.f l.str q) = _
  by_cases h : l = c.l ∧ q = c.p
  · rw [if_pos h, if_pos ⟨by rw [h.1], h.2⟩]
  · rw [if_neg h, if_neg (fun z => h ⟨lt_inj z.1, z.2⟩)]
    rfl
theorem get_flag (s : MS) (g : Int) (l : Lt) (q : Int) : (s.flag g).get l q = s.get l q := rfl
theorem get_split (s : MS) (W : Int) (c : Cl Int) (t : Int) (l : Lt) (q : Int) : (s.split W c t).get l q = if l = c.l ∧ q = c.p then t % W else s.get l q := get_put s c _ l q
theorem g_put (s : MS) (c : Cl Int) (v : Int) : (s.put c v).g = s.g := rfl
theorem g_flag (s : MS) (g : Int) : (s.flag g).g = g := rfl
theorem g_split (s : MS) (W : Int) (c : Cl Int) (t : Int) : (s.split W c t).g = t / W := rfl
theorem at_get' (s : MS) (c : Cl Int) : s.at c = s.get c.l c.p := rfl
theorem run_nil (W : Int) (s : MS) : runRows W s [] = s := rfl
theorem run_cons (W : Int) (s : MS) (r : RowP) (rs : List RowP) : runRows W s (r :: rs) = runRows W (rowStep W s r) rs := rfl
theorem run_app (W : Int) (s : MS) (a b : List RowP) : runRows W s (a ++ b) = runRows W (runRows W s a) b := List.foldl_append
theorem run_snoc (W : Int) (s : MS) (R : Nat → RowP) (k : Nat) : runRows W s ((List.range (k + 1)).map R) = rowStep W (runRows W s ((List.range k).map R)) (R k) := by
  rw [List.range_succ, List.map_append, run_app]
  rfl
/-- rows that put into c, one behind another -/
theorem pass_put {W : Int} {R : Nat → RowP} {V : MS → Nat → Int} (hR : ∀ s j, rowStep W s (R j) = s.put ⟨.c, (j : Nat)⟩ (V s j)) (hV : ∀ s s' (j : Nat), (∀ l, s.get l j = s'.get l j) → V s j = V s' j) (s : MS) : ∀ k : Nat,
    (∀ (l : Lt) (q : Int), ¬ (l = .c ∧ 0 ≤ q ∧ q < k) → (runRows W s ((List.range k).map R)).get l q = s.get l q) ∧ (∀ j : Nat, j < k → (runRows W s ((List.range k).map R)).get .c j = V s j) ∧ (runRows W s ((List.range k).map R)).g = s.g
  | 0 => ⟨fun _ _ _ => rfl, fun _ h => absurd h (by omega), rfl⟩
  | k + 1 => by
    obtain ⟨h1, h2, h3⟩ := pass_put hR hV s k
    rw [run_snoc, hR]
    refine ⟨fun l q h => ?_, fun j hj => ?_, ?_⟩
    · rw [get_put, if_neg (fun z => h ⟨z.1, by have := z.2; simp only at this; omega, by have := z.2; simp only at this; omega⟩)]
      exact h1 l q fun z => h ⟨z.1, z.2.1, by omega⟩
    · rw [get_put]
      by_cases e : j = k
      · subst e
        rw [if_pos ⟨rfl, rfl⟩]
        exact hV _ _ _ fun l => h1 l j fun z => by omega
      · rw [if_neg (fun z => e (by have := z.2; simp only at this; omega))]
        exact h2 j (by omega)
    · rw [g_put, h3]
/-- rows that put into c with a carry -/
theorem pass_up {W : Int} {R : Nat → RowP} {U : MS → Nat → Int} (hR : ∀ s j, rowStep W s (R j) = s.split W ⟨.c, (j : Nat)⟩ (U s j + s.g)) (hU : ∀ s s' (j : Nat), (∀ l, s.get l j = s'.get l j) → U s j = U s' j) (s : MS) : ∀ k : Nat,
    (∀ (l : Lt) (q : Int), ¬ (l = .c ∧ 0 ≤ q ∧ q < k) → (runRows W s ((List.range k).map R)).get l q = s.get l q) ∧ (∀ j : Nat, j < k → (runRows W s ((List.range k).map R)).get .c j = (U s j + cy W (fun q => U s q.toNat) s.g j) % W) ∧
      (runRows W s ((List.range k).map R)).g = cy W (fun q => U s q.toNat) s.g k
  | 0 => ⟨fun _ _ _ => rfl, fun _ h => absurd h (by omega), rfl⟩
  | k + 1 => by
    obtain ⟨h1, h2, h3⟩ := pass_up hR hU s k
    have hk : U (runRows W s ((List.range k).map R)) k = U s k := hU _ _ _ fun l => h1 l k fun z => by omega
    rw [run_snoc, hR, hk, h3]
    refine ⟨fun l q h => ?_, fun j hj => ?_, ?_⟩
    · rw [get_split, if_neg (fun z => h ⟨z.1, by have := z.2; simp only at this; omega, by have := z.2; simp only at this; omega⟩)]
      exact h1 l q fun z => h ⟨z.1, z.2.1, by omega⟩
    · rw [get_split]
      by_cases e : j = k
      · subst e
        rw [if_pos ⟨rfl, rfl⟩]
      · rw [if_neg (fun z => e (by have := z.2; simp only at this; omega))]
        exact h2 j (by omega)
    · rw [g_split]
      show _ = (U s ((k : Nat) : Int).toNat + _) / W
      rw [Int.toNat_natCast]
/-- words above the top: the flag -/
def capF (s : MS) (n : Nat) (q : Int) : Int := if q = n then s.g else s.get .c q
theorem pass_half {W : Int} {n : Nat} {s : MS} (hg : 0 ≤ s.g ∧ s.g ≤ 1) {R : Nat → RowP} (hR : ∀ j : Nat, j < n → R j = .one .half ⟨.c, ((n - 1 - j : Nat) : Int)⟩ ⟨.c, ((n - 1 - j : Nat) : Int)⟩) : ∀ k : Nat, k ≤ n →
    (∀ (l : Lt) (q : Int), ¬ (l = .c ∧ ((n - k : Nat) : Int) ≤ q ∧ q < n) → (runRows W s ((List.range k).map R)).get l q = s.get l q) ∧
    (∀ j : Nat, n - k ≤ j → j < n → (runRows W s ((List.range k).map R)).get .c j = capF s n j / 2 + capF s n (j + 1 : Nat) % 2 * (W / 2)) ∧
      (runRows W s ((List.range k).map R)).g = capF s n ((n - k : Nat) : Int) % 2
  | 0, _ => by
    refine ⟨fun _ _ _ => rfl, fun j h1 h2 => absurd h1 (by omega), ?_⟩
    show s.g = capF s n ((n - 0 : Nat) : Int) % 2
    rw [Nat.sub_zero]
    unfold capF
    rw [if_pos rfl]
    omega
  | k + 1, hk => by
    obtain ⟨h1, h2, h3⟩ := pass_half (W := W) hg hR k (by omega)
    rw [run_snoc, hR k (by omega)]
    have ep : n - 1 - k = n - (k + 1) := by omega
    rw [ep]
    have hc : (runRows W s ((List.range k).map R)).get .c ((n - (k + 1) : Nat) : Int) = s.get .c ((n - (k + 1) : Nat) : Int) := h1 _ _ fun z => by omega
    have hcap : capF s n ((n - (k + 1) : Nat) : Int) = s.get .c ((n - (k + 1) : Nat) : Int) := by
      unfold capF
      rw [if_neg (by omega)]
    have es : rowStep W (runRows W s ((List.range k).map R)) (.one .half ⟨.c, ((n - (k + 1) : Nat) : Int)⟩ ⟨.c, ((n - (k + 1) : Nat) : Int)⟩) = ((runRows W s ((List.range k).map R)).put ⟨.c, ((n - (k + 1) : Nat) : Int)⟩ (s.get .c ((n - (k + 1) : Nat) : Int) / 2 + (runRows W s ((List.range k).map R)).g * (W / 2))).flag (s.get .c ((n - (k + 1) : Nat) : Int) % 2) := by
      show ((runRows W s ((List.range k).map R)).put _ ((runRows W s ((List.range k).map R)).at _ / 2 + _)).flag ((runRows W s ((List.range k).map R)).at _ % 2) = _
      rw [at_get', hc]
    rw [es]
    refine ⟨fun l q h => ?_, fun j hj1 hj2 => ?_, ?_⟩
    · rw [get_flag, get_put, if_neg (fun z => h ⟨z.1, by have := z.2; simp only at this; omega, by have := z.2; simp only at this; omega⟩)]
      exact h1 l q fun z => h ⟨z.1, by omega, z.2.2⟩
    · rw [get_flag, get_put]
      by_cases e : j = n - (k + 1)
      · subst e
        rw [if_pos ⟨rfl, rfl⟩, h3, hcap]
        have e2 : n - (k + 1) + 1 = n - k := by omega
        rw [e2]
      · rw [if_neg (fun z => e (by have := z.2; simp only at this; omega))]
        exact h2 j (by omega) hj2
    · rw [g_flag, hcap]
end Ww

set_option Elab.async false
set_option linter.all false
set_option maxRecDepth 100000
set_option maxHeartbeats 1000000
/-! WP3: the tellings unrolled (no program in sight). -/
namespace Ww
theorem num_n {w n : Int} (h : 0 ≤ n) : (⟨0, 1, 0⟩ : Cnt).num w n = n.toNat := by
  unfold Cnt.num Cnt.many Cnt.of
  simp only [Int.zero_mul, Int.one_mul, Int.zero_add, Int.add_zero]
  split <;> omega
theorem num_s {w n s : Int} : (⟨s, 0, 0⟩ : Cnt).num w n = s.toNat := by
  unfold Cnt.num Cnt.many Cnt.of
  simp only [Int.zero_mul, Int.add_zero]
  split <;> omega
theorem flat_one {α β : Type} (f : α → β) (l : List α) : (l.flatMap fun x => [f x]) = l.map f := by
  induction l with
  | nil => rfl
  | cons x l ih =>
    rw [List.flatMap_cons, ih]
    rfl
def endsR (n : Int) : List RowP := [.set ⟨.t, 0⟩ 0] ++ ((List.range n.toNat).map fun i => .two .any ⟨.t, 0⟩ ⟨.t, 0⟩ ⟨.c, (i : Nat)⟩) ++ [.ask ⟨.t, 0⟩, .set ⟨.u, 0⟩ 1, .two .less ⟨.m, 2⟩ ⟨.u, 0⟩ ⟨.z, 0⟩, .mark 0, .one .twice ⟨.t, 0⟩ ⟨.c, n - 1⟩, .two .sum ⟨.m, 3⟩ ⟨.z, 0⟩ ⟨.z, 0⟩]
theorem unroll_app (w n : Int) (a b : Tell) : unroll w n (a ++ b) = unroll w n a ++ unroll w n b := List.flatMap_append
theorem unroll_loop {w n : Int} (h : 0 ≤ n) (r : RowI) (se : Sent) : unroll w n [timesN [.row r] se] = (List.range n.toNat).map fun i => plainRow n (i : Nat) 0 r := by
  show (List.range ((⟨0, 1, 0⟩ : Cnt).num w n)).flatMap (fun i => [plainRow n (i : Nat) 0 r]) ++ [] = _
  rw [num_n h, List.append_nil, flat_one]
theorem unroll_row (w n : Int) (r : RowI) : unroll w n [.row r] = [plainRow n 0 0 r] := rfl
theorem at0 (c i j n : Int) : (⟨c, 0, 0, 0⟩ : Ix).at n i j = c := by
  show c + 0 * i + 0 * j + 0 * n = c
  omega
theorem at_i (i j n : Int) : (⟨0, 1, 0, 0⟩ : Ix).at n i j = i := by
  show 0 + 1 * i + 0 * j + 0 * n = i
  omega
theorem at_j (i j n : Int) : (⟨0, 0, 1, 0⟩ : Ix).at n i j = j := by
  show 0 + 0 * i + 1 * j + 0 * n = j
  omega
theorem at_d (i j n : Int) : (⟨-1, 0, -1, 1⟩ : Ix).at n i j = n - 1 - j := by
  show -1 + 0 * i + -1 * j + 1 * n = n - 1 - j
  omega
theorem at_h (i j n : Int) : (⟨-1, 0, 0, 1⟩ : Ix).at n i j = n - 1 := by
  show -1 + 0 * i + 0 * j + 1 * n = n - 1
  omega
theorem unroll_ends {w n : Int} (h : 0 ≤ n) : unroll w n (endsT 0 1) = endsR n := by
  have e : endsT 0 1 = [.row (.set (cl .t) 0)] ++ [timesN [.row (.two .any (cl .t) (cl .t) (cl .c 0 1))]] ++ [.row (.ask (cl .t)), .row (.set (cl .u) 1), .row (.two .less (cl .m 2) (cl .u) naught), .row (.mark 0), .row (.one .twice (cl .t) (cl .c (-1) 0 0 1)), .row (.two .sum (cl .m 3) naught naught)] := rfl
  rw [e, unroll_app, unroll_app, unroll_loop h]
  unfold endsR
  congr 1
  · congr 1
    · show [plainRow n 0 0 (.set (cl .t) 0)] = _
      simp only [plainRow, Row.map, Cl.map, cl, at0]
    · refine List.map_congr_left fun i _ => ?_
      simp only [plainRow, Row.map, Cl.map, cl, at0, at_i]
  · show [plainRow n 0 0 _, plainRow n 0 0 _, plainRow n 0 0 _, plainRow n 0 0 _, plainRow n 0 0 _, plainRow n 0 0 _] = _
    simp only [plainRow, Row.map, Cl.map, cl, naught, at0, at_h]
/-! ### the rows of each telling -/
def mvR (j : Nat) : RowP := .one .move ⟨.c, (j : Nat)⟩ ⟨.a, (j : Nat)⟩
def twR (j : Nat) : RowP := .one .twice ⟨.c, (j : Nat)⟩ ⟨.c, (j : Nat)⟩
def opR (o : Two) (j : Nat) : RowP := .two o ⟨.c, (j : Nat)⟩ ⟨.a, (j : Nat)⟩ ⟨.b, (j : Nat)⟩
def hfR (n : Int) (j : Nat) : RowP := .one .half ⟨.c, n - 1 - (j : Nat)⟩ ⟨.c, n - 1 - (j : Nat)⟩
def upR (n : Int) : List RowP := (List.range n.toNat).map twR
def dnR (n : Int) : List RowP := (List.range n.toNat).map (hfR n)
def aheadR (n : Int) : Sh → RowP
  | .down => .one .twice ⟨.t, 0⟩ ⟨.c, n - 1⟩
  | .roll => .one .twice ⟨.t, 0⟩ ⟨.c, n - 1⟩
  | _ => .mark 0
def passR (n : Int) : Sh → List RowP
  | .left => upR n
  | .roll => upR n
  | _ => dnR n
/-- k rounds -/
def roundsR (n : Int) (k : Sh) (s : Nat) : List RowP := (List.range s).flatMap fun _ => aheadR n k :: passR n k
theorem unroll_sum {w n : Int} (h : 0 ≤ n) : unroll w n sumT = [.mark 0] ++ (List.range n.toNat).map (opR .sum) ++ unroll w n (markTo 0) ++ unroll w n signsT ++ unroll w n [.row (.two .odd (cl .s 3) (cl .s) (cl .s 2)), .row (.two .odd (cl .s 4) (cl .s 1) (cl .s 2)), .row (.two .both (cl .m 1) (cl .s 3) (cl .s 4))] ++ endsR n := by
  have e : sumT = [.row (.mark 0)] ++ [timesN [.row (.two .sum (cl .c 0 1) (cl .a 0 1) (cl .b 0 1))] sumS] ++ markTo 0 ++ signsT ++ [.row (.two .odd (cl .s 3) (cl .s) (cl .s 2)), .row (.two .odd (cl .s 4) (cl .s 1) (cl .s 2)), .row (.two .both (cl .m 1) (cl .s 3) (cl .s 4))] ++ endsT 0 1 := rfl
  rw [e, unroll_app, unroll_app, unroll_app, unroll_app, unroll_app, unroll_loop h, unroll_ends h]
  congr 5
  refine List.map_congr_left fun i _ => ?_
  simp only [plainRow, Row.map, Cl.map, cl, at_i, opR]
theorem unroll_twos {w n : Int} (h : 0 ≤ n) (o : Two) : unroll w n (twosT o) = (List.range n.toNat).map (opR o) ++ unroll w n noMarks ++ endsR n := by
  have e : twosT o = [timesN [.row (.two o (cl .c 0 1) (cl .a 0 1) (cl .b 0 1))]] ++ noMarks ++ endsT 0 1 := rfl
  rw [e, unroll_app, unroll_app, unroll_loop h, unroll_ends h]
  congr 2
  refine List.map_congr_left fun i _ => ?_
  simp only [plainRow, Row.map, Cl.map, cl, at_i, opR]
def tailT : Sh → Tell
  | .roll => noMarks
  | _ => markTo 0 ++ [.row (.set (cl .m 1) 0)]
theorem unroll_shift {w n s : Int} (h : 0 ≤ n) (k : Sh) : unroll w n (shiftT k s) = (List.range n.toNat).map mvR ++ [.mark 0] ++ roundsR n k s.toNat ++ unroll w n (tailT k) ++ endsR n := by
  have e : shiftT k s = [timesN [.row (.one .move (cl .c 0 1) (cl .a 0 1))] copyS] ++ [.row (.mark 0)] ++ [.rounds ⟨s, 0, 0⟩ [] [aheadT k, onePlace k]] ++ tailT k ++ endsT 0 1 := by
    cases k <;> rfl
  have e2 : unroll w n [.rounds ⟨s, 0, 0⟩ [] [aheadT k, onePlace k]] = roundsR n k s.toNat := by
    show (List.range ((⟨s, 0, 0⟩ : Cnt).num w n)).flatMap (fun i => unroll1 w n (i : Nat) (aheadT k) ++ (unroll1 w n (i : Nat) (onePlace k) ++ [])) ++ [] = _
    rw [num_s, List.append_nil]
    unfold roundsR
    congr 1
    funext i
    have e3 : unroll1 w n (i : Nat) (onePlace k) = passR n k := by
      have up : (List.range ((⟨0, 1, 0⟩ : Cnt).num w n)).flatMap (fun j => [plainRow n (i : Nat) (j : Nat) (.one .twice (cl .c 0 0 1) (cl .c 0 0 1))]) = upR n := by
        rw [num_n h, flat_one]
        refine List.map_congr_left fun j _ => ?_
        simp only [plainRow, Row.map, Cl.map, cl, at_j, twR]
      have dn : (List.range ((⟨0, 1, 0⟩ : Cnt).num w n)).flatMap (fun j => [plainRow n (i : Nat) (j : Nat) (.one .half (cl .c (-1) 0 (-1) 1) (cl .c (-1) 0 (-1) 1))]) = dnR n := by
        rw [num_n h, flat_one]
        refine List.map_congr_left fun j _ => ?_
        simp only [plainRow, Row.map, Cl.map, cl, at_d, hfR]
      cases k with
      | left => exact up
      | roll => exact up
      | right => exact dn
      | down => exact dn
    have e4 : unroll1 w n (i : Nat) (aheadT k) = [aheadR n k] := by
      cases k with
      | left => rfl
      | right => rfl
      | down =>
        show [plainRow n (i : Nat) 0 highest] = _
        simp only [plainRow, highest, Row.map, Cl.map, cl, at0, at_h, aheadR]
      | roll =>
        show [plainRow n (i : Nat) 0 highest] = _
        simp only [plainRow, highest, Row.map, Cl.map, cl, at0, at_h, aheadR]
    rw [e3, e4, List.append_nil]
    rfl
  rw [e, unroll_app, unroll_app, unroll_app, unroll_app, unroll_loop h, unroll_ends h, e2]
  congr 4
  refine List.map_congr_left fun i _ => ?_
  simp only [plainRow, Row.map, Cl.map, cl, at_i, mvR]
end Ww

set_option Elab.async false
set_option linter.all false
set_option maxRecDepth 100000
set_option maxHeartbeats 1000000
/-! WP4: one round, the start, the rest (no program in sight). -/
namespace Ww
open PySem
/-! ### the answer's worth -/
theorem fold_val {W : Int} (f : Nat → Int) (c : Int → Int) : ∀ (k : Nat) (acc : Int), (∀ j : Nat, j < k → f j = c j) → ((List.range k).map f).reverse.foldl (fun acc a => acc * W + a) acc = acc * W ^ k + val W c k
  | 0, acc, _ => by
    show acc = acc * W ^ 0 + 0
    rw [Int.pow_zero, Int.mul_one, Int.add_zero]
  | k + 1, acc, h => by
    rw [List.range_succ, List.map_append, List.reverse_append, List.foldl_append]
    show List.foldl _ (acc * W + f k) _ = _
    rw [fold_val f c k _ fun j hj => h j (by omega), h k (by omega)]
    show (acc * W + c k) * W ^ k + val W c k = acc * W ^ (k + 1) + (val W c k + c k * W ^ k)
    rw [Int.add_mul, Int.pow_succ, Int.mul_comm (W ^ k) W, Int.mul_assoc]
    omega
theorem told_val (d : Deed) (w n x y : Int) : told d w n x y = val (pw w) ((ranS d w n x y).get .c) n.toNat := by
  have h := fold_val (W := pw w) (fun j : Nat => (ranS d w n x y).f "c" (j : Nat)) ((ranS d w n x y).get .c) n.toNat 0 fun j _ => rfl
  rw [Int.zero_mul, Int.zero_add] at h
  exact h
/-! ### the start -/
theorem put_words {f : Str → Int → Int} {l : Str} {ws : Nat → Int} : ∀ (k : Nat), (∀ j : Nat, j < k → putWords f l ws k l j = ws j) ∧ ∀ l' q, l' ≠ l → putWords f l ws k l' q = f l' q
  | 0 => ⟨fun _ h => absurd h (by omega), fun _ _ _ => rfl⟩
  | k + 1 => by
    obtain ⟨h1, h2⟩ := put_words (f := f) (l := l) (ws := ws) k
    refine ⟨fun j hj => ?_, fun l' q hl => ?_⟩
    · show (if l = l ∧ (j : Int) = (k : Int) then ws k else putWords f l ws k l j) = ws j
      by_cases e : j = k
      · subst e
        rw [if_pos ⟨rfl, rfl⟩]
      · rw [if_neg (fun z => e (by have := z.2; omega))]
        exact h1 j (by omega)
    · show (if l' = l ∧ q = (k : Int) then ws k else putWords f l ws k l' q) = f l' q
      rw [if_neg (fun z => hl z.1)]
      exact h2 l' q hl
theorem begin_a {W n x y : Int} {j : Nat} (h : j < n.toNat) : (beginS W n x y).get .a j = wordAt W x j := by
  show putWords (putWords zeroF "a" (wordAt W x) n.toNat) "b" (wordAt W y) n.toNat "a" j = _
  rw [(put_words _).2 "a" j (by decide)]
  exact (put_words _).1 j h
theorem begin_b {W n x y : Int} {j : Nat} (h : j < n.toNat) : (beginS W n x y).get .b j = wordAt W y j := (put_words _).1 j h
theorem begin_o {W n x y q : Int} {l : Lt} (ha : l ≠ .a) (hb : l ≠ .b) : (beginS W n x y).get l q = 0 := by
  show putWords (putWords zeroF "a" (wordAt W x) n.toNat) "b" (wordAt W y) n.toNat l.str q = _
  have h1 : ∀ f, putWords f "b" (wordAt W y) n.toNat l.str q = f l.str q := fun f => (put_words _).2 l.str q fun e => hb (lt_inj (m := .b) e)
  have h2 : ∀ f, putWords f "a" (wordAt W x) n.toNat l.str q = f l.str q := fun f => (put_words _).2 l.str q fun e => ha (lt_inj (m := .a) e)
  rw [h1, h2]
  rfl
theorem begin_g {W n x y : Int} : (beginS W n x y).g = 0 := rfl
/-! ### rows that leave a letter -/
def Row.dst {α : Type} : Row α → Option Lt
  | .mark _ => none
  | .ask _ => none
  | .set to _ => some to.l
  | .one _ to _ => some to.l
  | .two _ to _ _ => some to.l
theorem step_keep {W : Int} {s : MS} {r : RowP} {l : Lt} {q : Int} (h : r.dst ≠ some l) : (rowStep W s r).get l q = s.get l q := by
  cases r with
  | mark d => rfl
  | ask x => rfl
  | set to d =>
    show (s.put to d).get l q = _
    rw [get_put, if_neg (fun z => h (congrArg some z.1.symm))]
  | one o to x =>
    have hl : ∀ v, (s.put to v).get l q = s.get l q := fun v => by rw [get_put, if_neg (fun z => h (congrArg some z.1.symm))]
    cases o <;> exact hl _
  | two o to x y =>
    have hl : ∀ v, (s.put to v).get l q = s.get l q := fun v => by rw [get_put, if_neg (fun z => h (congrArg some z.1.symm))]
    cases o <;> exact hl _
theorem run_keep {W : Int} {l : Lt} {q : Int} : ∀ (rs : List RowP) (s : MS), (∀ r ∈ rs, r.dst ≠ some l) → (runRows W s rs).get l q = s.get l q
  | [], _, _ => rfl
  | r :: rs, s, h => by
    rw [run_cons, run_keep rs _ fun x hx => h x (List.mem_cons_of_mem _ hx)]
    exact step_keep (h r (List.mem_cons_self ..))
theorem dst_plain (n i j : Int) (r : RowI) : (plainRow n i j r).dst = r.dst := by
  cases r <;> rfl
theorem ends_keep {W n : Int} {s : MS} {l : Lt} {q : Int} (h : l ≠ .t ∧ l ≠ .u ∧ l ≠ .m) : (runRows W s (endsR n)).get l q = s.get l q := by
  refine run_keep _ _ fun r hr => ?_
  unfold endsR at hr
  simp only [List.mem_append, List.mem_cons, List.not_mem_nil, or_false, List.mem_map] at hr
  obtain ⟨h1, h2, h3⟩ := h
  rcases hr with (rfl | ⟨i, _, rfl⟩) | rfl | rfl | rfl | rfl | rfl | rfl <;> simp [Row.dst] <;> first | exact fun e => h1 e.symm | exact fun e => h2 e.symm | exact fun e => h3 e.symm
theorem tail_keep {W w n : Int} {s : MS} {k : Sh} {l : Lt} {q : Int} (h : l ≠ .m) : (runRows W s (unroll w n (tailT k))).get l q = s.get l q := by
  refine run_keep _ _ fun r hr => ?_
  have h2 : ∀ r ∈ unroll w n (tailT k), r.dst = some .m ∨ r.dst = none := by
    intro r hr
    cases k <;> simp only [tailT, unroll, markTo, noMarks, List.flatMap_cons, List.flatMap_nil, List.cons_append, List.nil_append, List.append_nil, unroll2, List.mem_cons, List.not_mem_nil, or_false] at hr <;> rcases hr with rfl | rfl <;> exact .inl rfl
  rcases h2 r hr with e | e
  · rw [e]
    exact fun z => h (Option.some.inj z).symm
  · rw [e]
    exact fun z => by cases z
/-! ### one round -/
structure Inv (W : Int) (m : Nat) (s : MS) (V : Int) : Prop where
  w : words W (s.get .c) m
  v : val W (s.get .c) m = V
  g : 0 ≤ s.g ∧ s.g ≤ 1
theorem round_up {W : Int} {m : Nat} {s : MS} {V : Int} (hW : 4 ≤ W) (h : Inv W m s V) : ∃ V' g', Inv W m (runRows W s ((List.range m).map twR)) V' ∧ (0 ≤ V' ∧ V' < W ^ m) ∧ (0 ≤ g' ∧ g' ≤ 1) ∧ V' + W ^ m * g' = 2 * V + s.g ∧ (runRows W s ((List.range m).map twR)).g = g' := by
  obtain ⟨p1, p2, p3⟩ := pass_up (W := W) (R := twR) (U := fun s j => 2 * s.get .c (j : Nat)) (fun s j => rfl) (fun s s' j e => by show 2 * s.get .c (j : Nat) = 2 * s'.get .c (j : Nat); rw [e]) s m
  have hu : ∀ j : Nat, j < m → 0 ≤ (fun q : Int => 2 * s.get .c (q.toNat : Nat)) j ∧ (fun q : Int => 2 * s.get .c (q.toNat : Nat)) j ≤ 2 * (W - 1) := fun j hj => by
    have := h.w j hj
    show 0 ≤ 2 * s.get .c (j : Nat) ∧ 2 * s.get .c (j : Nat) ≤ 2 * (W - 1)
    omega
  have hb := cy_bit (W := W) (u := fun q : Int => 2 * s.get .c (q.toNat : Nat)) (n := m) (by omega) h.g hu
  have hv := cy_val (W := W) (g := s.g) (u := fun q : Int => 2 * s.get .c (q.toNat : Nat)) (c := (runRows W s ((List.range m).map twR)).get .c) (n := m) fun j hj => p2 j hj
  have hw : words W ((runRows W s ((List.range m).map twR)).get .c) m := fun j hj => by
    rw [p2 j hj]
    exact ⟨Int.emod_nonneg _ (by omega), Int.emod_lt_of_pos _ (by omega)⟩
  have e2 : val W (fun q : Int => 2 * s.get .c (q.toNat : Nat)) m = 2 * V := by
    rw [← h.v, ← val_two]
    exact val_congr fun j _ => rfl
  rw [e2] at hv
  exact ⟨_, _, ⟨hw, rfl, by rw [p3]; exact hb⟩, ⟨val_nonneg (by omega) hw, val_lt (by omega) hw⟩, hb, hv, p3⟩
theorem dn_map {n : Int} {m : Nat} (hn : n = m) : ∀ j : Nat, j < m → hfR n j = .one .half ⟨.c, ((m - 1 - j : Nat) : Int)⟩ ⟨.c, ((m - 1 - j : Nat) : Int)⟩ := fun j hj => by
  have e : n - 1 - (j : Int) = ((m - 1 - j : Nat) : Int) := by omega
  unfold hfR
  rw [e]
theorem round_dn {W n : Int} {m : Nat} {s : MS} {V : Int} (hn : n = m) (hW : 4 ≤ W) (he : 2 * (W / 2) = W) (h : Inv W m s V) : Inv W m (runRows W s ((List.range m).map (hfR n))) ((V + s.g * W ^ m) / 2) := by
  obtain ⟨p1, p2, p3⟩ := pass_half (W := W) (s := s) h.g (dn_map hn) m (Nat.le_refl _)
  have hcap : ∀ j : Nat, j < m → capF s m j = s.get .c j := fun j hj => by
    unfold capF
    rw [if_neg (by omega)]
  have hcm : capF s m (m : Nat) = s.g := by
    unfold capF
    rw [if_pos rfl]
  have hh := half_val (W := W) (a := capF s m) (c := (runRows W s ((List.range m).map (hfR n))).get .c) he (n := m) fun j hj => p2 j (by omega) hj
  have hbits : ∀ q : Int, 0 ≤ q % 2 ∧ q % 2 ≤ 1 := fun q => by omega
  have hg2 : s.g % 2 = s.g := by
    have := h.g
    omega
  rw [val_congr (W := W) (c := capF s m) (e := s.get .c) hcap, h.v, hcm, hg2] at hh
  refine ⟨fun j hj => ?_, ?_, ?_⟩
  · rw [p2 j (by omega) hj, hcap j hj]
    have h1 := h.w j hj
    have h2 := hbits (capF s m (j + 1 : Nat))
    generalize capF s m (j + 1 : Nat) % 2 = b at h2
    rcases (show b = 0 ∨ b = 1 by omega) with rfl | rfl
    · rw [Int.zero_mul]
      omega
    · rw [Int.one_mul]
      omega
  · have := hbits (capF s m 0)
    omega
  · rw [p3]
    exact hbits _
theorem top_bit {W : Int} {m : Nat} {s : MS} {V : Int} (hm : 0 < m) (hW : 4 ≤ W) (he : 2 * (W / 2) = W) (h : Inv W m s V) : (2 * s.get .c ((m : Int) - 1) + s.g) / W = if W ^ m ≤ 2 * V then 1 else 0 := by
  obtain ⟨k, rfl⟩ : ∃ k, m = k + 1 := ⟨m - 1, by omega⟩
  have e : ((k + 1 : Nat) : Int) - 1 = (k : Int) := by omega
  rw [e]
  have hk := h.w k (by omega)
  have hw : words W (s.get .c) k := fun j hj => h.w j (by omega)
  have h0 := val_nonneg (by omega) hw
  have h1 := val_lt (by omega) hw
  have hv : val W (s.get .c) k + s.get .c k * W ^ k = V := h.v
  have hp := powI_pos (show 0 < W by omega) k
  have hg := h.g
  have eW : W ^ (k + 1) = W * W ^ k := by rw [Int.pow_succ, Int.mul_comm]
  rw [eW]
  generalize s.get .c k = c at hk hv
  generalize val W (s.get .c) k = L at h0 h1 hv
  generalize W ^ k = p at hp h1 hv
  by_cases hc : W ≤ 2 * c
  · have h2 : W * p ≤ 2 * c * p := Int.mul_le_mul_of_nonneg_right hc (by omega)
    rw [Int.mul_assoc] at h2
    rw [if_pos (by omega)]
    have h3 : (2 * c + s.g) / W < 2 := Int.ediv_lt_of_lt_mul (by omega) (by omega)
    have h4 : 1 ≤ (2 * c + s.g) / W := Int.le_ediv_of_mul_le (by omega) (by omega)
    omega
  · have h2 : (2 * c + 2) * p ≤ W * p := Int.mul_le_mul_of_nonneg_right (by omega) (by omega)
    rw [Int.add_mul, Int.mul_assoc] at h2
    rw [if_neg (by omega)]
    exact Int.ediv_eq_zero_of_lt (by omega) (by omega)
end Ww

set_option Elab.async false
set_option linter.all false
set_option maxRecDepth 100000
set_option maxHeartbeats 1000000
/-! WP5: many rounds, in closed form (no program in sight). -/
namespace Ww
open PySem
theorem rounds_succ (n : Int) (k : Sh) (t : Nat) : roundsR n k (t + 1) = roundsR n k t ++ (aheadR n k :: passR n k) := by
  unfold roundsR
  rw [flat_succ]
def nextV (k : Sh) (M V : Int) : Int :=
  match k with
  | .left => (2 * V) % M
  | .right => V / 2
  | .down => (V + (if M ≤ 2 * V then M else 0)) / 2
  | .roll => 2 * V + (if M ≤ 2 * V then 1 - M else 0)
section
variable {W n : Int} {m : Nat} {s : MS} {V : Int}
theorem Inv.flag0 (h : Inv W m s V) : Inv W m (s.flag 0) V := ⟨h.w, h.v, by show (0 : Int) ≤ 0 ∧ (0 : Int) ≤ 1; decide⟩
theorem Inv.high (hn : n = m) (hm : 0 < m) (hW : 4 ≤ W) (he : 2 * (W / 2) = W) (h : Inv W m s V) : Inv W m (rowStep W s (.one .twice ⟨.t, 0⟩ ⟨.c, n - 1⟩)) V ∧ (rowStep W s (.one .twice ⟨.t, 0⟩ ⟨.c, n - 1⟩)).g = if W ^ m ≤ 2 * V then 1 else 0 := by
  have ht := top_bit hm hW he h
  have hc : ∀ q, (rowStep W s (.one .twice ⟨.t, 0⟩ ⟨.c, n - 1⟩)).get .c q = s.get .c q := fun q => step_keep (by show some Lt.t ≠ some Lt.c; decide)
  have hg : (rowStep W s (.one .twice ⟨.t, 0⟩ ⟨.c, n - 1⟩)).g = if W ^ m ≤ 2 * V then 1 else 0 := by
    rw [← ht, ← hn]
    rfl
  refine ⟨⟨fun j hj => ?_, ?_, ?_⟩, hg⟩
  · rw [hc]
    exact h.w j hj
  · rw [val_congr (W := W) (e := s.get .c) fun j _ => hc j, h.v]
  · rw [hg]
    split <;> decide
theorem one_round (k : Sh) (hn : n = m) (hm : 0 < m) (hW : 4 ≤ W) (he : 2 * (W / 2) = W) (h : Inv W m s V) (hV : 0 ≤ V ∧ V < W ^ m) : Inv W m (runRows W s (aheadR n k :: passR n k)) (nextV k (W ^ m) V) := by
  have em : n.toNat = m := by omega
  rw [run_cons]
  have hM := powI_pos (show 0 < W by omega) m
  cases k with
  | left =>
    show Inv W m (runRows W (s.flag 0) ((List.range n.toNat).map twR)) ((2 * V) % W ^ m)
    rw [em]
    obtain ⟨V', g', i1, i2, i3, i4, i5⟩ := round_up hW h.flag0
    have e : (2 * V) % W ^ m = V' := by
      have e1 : 2 * V = V' + W ^ m * g' := by
        rw [i4]
        show 2 * V = 2 * V + 0
        omega
      rw [e1, Int.add_mul_emod_self_left, Int.emod_eq_of_lt i2.1 i2.2]
    rw [e]
    exact i1
  | right =>
    show Inv W m (runRows W (s.flag 0) ((List.range n.toNat).map (hfR n))) (V / 2)
    rw [em]
    have i := round_dn hn hW he h.flag0
    have e : (V + (s.flag 0).g * W ^ m) / 2 = V / 2 := by
      show (V + 0 * W ^ m) / 2 = V / 2
      rw [Int.zero_mul, Int.add_zero]
    rw [e] at i
    exact i
  | down =>
    obtain ⟨i1, i2⟩ := h.high hn hm hW he
    show Inv W m (runRows W (rowStep W s (.one .twice ⟨.t, 0⟩ ⟨.c, n - 1⟩)) ((List.range n.toNat).map (hfR n))) ((V + (if W ^ m ≤ 2 * V then W ^ m else 0)) / 2)
    rw [em]
    have i := round_dn hn hW he i1
    rw [i2] at i
    have e : (if W ^ m ≤ 2 * V then (1 : Int) else 0) * W ^ m = if W ^ m ≤ 2 * V then W ^ m else 0 := by
      split
      · rw [Int.one_mul]
      · rw [Int.zero_mul]
    rw [e] at i
    exact i
  | roll =>
    obtain ⟨i1, i2⟩ := h.high hn hm hW he
    show Inv W m (runRows W (rowStep W s (.one .twice ⟨.t, 0⟩ ⟨.c, n - 1⟩)) ((List.range n.toNat).map twR)) (2 * V + (if W ^ m ≤ 2 * V then 1 - W ^ m else 0))
    rw [em]
    obtain ⟨V', g', j1, j2, j3, j4, j5⟩ := round_up hW i1
    rw [i2] at j4
    have e : 2 * V + (if W ^ m ≤ 2 * V then 1 - W ^ m else 0) = V' := by
      generalize W ^ m = M at *
      by_cases hc : M ≤ 2 * V
      · rw [if_pos hc] at j4 ⊢
        rcases (show g' = 0 ∨ g' = 1 by omega) with rfl | rfl
        · rw [Int.mul_zero] at j4
          omega
        · rw [Int.mul_one] at j4
          omega
      · rw [if_neg hc] at j4 ⊢
        rcases (show g' = 0 ∨ g' = 1 by omega) with rfl | rfl
        · rw [Int.mul_zero] at j4
          omega
        · rw [Int.mul_one] at j4
          omega
    rw [e]
    exact j1
theorem many_rounds (k : Sh) (hn : n = m) (hm : 0 < m) (hW : 4 ≤ W) (he : 2 * (W / 2) = W) {F : Nat → Int} (h : Inv W m s (F 0)) : ∀ t : Nat, (∀ j : Nat, j < t → nextV k (W ^ m) (F j) = F (j + 1)) → Inv W m (runRows W s (roundsR n k t)) (F t)
  | 0, _ => h
  | t + 1, hF => by
    have i := many_rounds k hn hm hW he h t fun j hj => hF j (by omega)
    rw [rounds_succ, run_app, ← hF t (by omega)]
    have h0 := val_nonneg (by omega) i.w
    have h1 := val_lt (by omega) i.w
    rw [i.v] at h0 h1
    exact one_round k hn hm hW he i ⟨h0, h1⟩
end
/-! ### numbers cut at a power of two -/
theorem cut_bit {x P : Int} (hP : 0 < P) : ∃ b : Int, (b = 0 ∨ b = 1) ∧ x % (2 * P) = x % P + b * P ∧ x / P = 2 * (x / (2 * P)) + b := by
  have h1 := Int.emod_add_mul_ediv x (2 * P)
  have h2 := Int.emod_nonneg x (show 2 * P ≠ 0 by omega)
  have h3 := Int.emod_lt_of_pos x (show 0 < 2 * P by omega)
  rw [Int.mul_assoc] at h1
  generalize x % (2 * P) = q at h1 h2 h3
  generalize x / (2 * P) = h at h1
  by_cases hc : P ≤ q
  · refine ⟨1, .inr rfl, ?_⟩
    have u : x / P = 2 * h + 1 ∧ x % P = q - P := (Int.ediv_emod_unique hP).mpr ⟨by
      rw [Int.mul_add, Int.mul_one, Int.mul_comm P (2 * h), Int.mul_assoc, Int.mul_comm h P]
      omega, by omega, by omega⟩
    rw [u.1, u.2, Int.one_mul]
    omega
  · refine ⟨0, .inl rfl, ?_⟩
    have u : x / P = 2 * h + 0 ∧ x % P = q := (Int.ediv_emod_unique hP).mpr ⟨by
      rw [Int.add_zero, Int.mul_comm P (2 * h), Int.mul_assoc, Int.mul_comm h P]
      omega, by omega, by omega⟩
    rw [u.1, u.2, Int.zero_mul]
    omega
def two (k : Nat) : Int := 2 ^ k
theorem two_pos (k : Nat) : 0 < two k := Int.pow_pos (by decide)
theorem two_succ (k : Nat) : two (k + 1) = 2 * two k := by
  unfold two
  rw [Int.pow_succ, Int.mul_comm]
theorem two_add (j k : Nat) : two (j + k) = two j * two k := Int.pow_add 2 j k
def leftF (N : Nat) (x : Int) (k : Nat) : Int := two k * (x % two (N - k))
def rollF (N : Nat) (x : Int) (k : Nat) : Int := two k * (x % two (N - k)) + x / two (N - k)
def rightF (x : Int) (k : Nat) : Int := x / two k
def downF (N : Nat) (x : Int) (k : Nat) : Int := if two N ≤ 2 * x then (x - two N) / two k + two N else x / two k
theorem shift_cut {N k : Nat} (hk : k < N) : ∃ P : Int, 0 < P ∧ two (N - k) = 2 * P ∧ two (N - (k + 1)) = P ∧ two N = two k * (2 * P) := by
  refine ⟨two (N - (k + 1)), two_pos _, ?_, rfl, ?_⟩
  · rw [← two_succ]
    congr 1
    omega
  · rw [← two_succ, ← two_add]
    congr 1
    omega
theorem left_step {N k : Nat} {x : Int} (hk : k < N) : nextV .left (two N) (leftF N x k) = leftF N x (k + 1) := by
  obtain ⟨P, hP, e1, e2, e3⟩ := shift_cut hk
  obtain ⟨b, hb, h1, h2⟩ := cut_bit (x := x) hP
  have hK := two_pos k
  show (2 * (two k * (x % two (N - k)))) % two N = two (k + 1) * (x % two (N - (k + 1)))
  rw [e1, e2, e3, h1, two_succ]
  have hq := Int.emod_nonneg x (show P ≠ 0 by omega)
  have hq2 := Int.emod_lt_of_pos x hP
  generalize x % P = q at hq hq2
  generalize two k = K at hK
  have e : 2 * (K * (q + b * P)) = 2 * K * q + K * (2 * P) * b := by
    have e5 : 2 * K * q = 2 * (K * q) := Int.mul_assoc 2 K q
    have e6 : K * (2 * P) * b = 2 * (K * (b * P)) := by
      rw [Int.mul_left_comm K 2 P, Int.mul_assoc, Int.mul_assoc, Int.mul_comm P b]
    rw [e5, e6, Int.mul_add K]
    omega
  rw [e, Int.add_mul_emod_self_left]
  have l0 : 0 ≤ 2 * K * q := Int.mul_nonneg (by omega) hq
  have l1 : 2 * K * q < 2 * K * P := Int.mul_lt_mul_of_pos_left hq2 (by omega)
  refine Int.emod_eq_of_lt l0 ?_
  rw [Int.mul_left_comm K 2 P, ← Int.mul_assoc]
  exact l1
theorem roll_step {N k : Nat} {x : Int} (hk : k < N) (hx : 0 ≤ x ∧ x < two N) : nextV .roll (two N) (rollF N x k) = rollF N x (k + 1) := by
  obtain ⟨P, hP, e1, e2, e3⟩ := shift_cut hk
  obtain ⟨b, hb, h1, h2⟩ := cut_bit (x := x) hP
  have hK := two_pos k
  show 2 * (two k * (x % two (N - k)) + x / two (N - k)) + (if two N ≤ 2 * (two k * (x % two (N - k)) + x / two (N - k)) then 1 - two N else 0) = two (k + 1) * (x % two (N - (k + 1))) + x / two (N - (k + 1))
  have hh0 : 0 ≤ x / (2 * P) := Int.ediv_nonneg hx.1 (by omega)
  have hh1 : x / (2 * P) < two k := Int.ediv_lt_of_lt_mul (by omega) (by rw [← e3]; exact hx.2)
  rw [e1, e2, e3, h1, h2, two_succ]
  have hq := Int.emod_nonneg x (show P ≠ 0 by omega)
  have hq2 := Int.emod_lt_of_pos x hP
  generalize x % P = q at hq hq2
  generalize x / (2 * P) = h at hh0 hh1
  generalize two k = K at hK hh1
  have e4 : K * (2 * P) = 2 * (K * P) := Int.mul_left_comm K 2 P
  have e5 : 2 * K * q = 2 * (K * q) := Int.mul_assoc 2 K q
  rw [e4, e5]
  rcases hb with rfl | rfl
  · have e6 : K * (q + 0 * P) = K * q := by rw [Int.zero_mul, Int.add_zero]
    rw [e6]
    have l1 : K * (q + 1) ≤ K * P := Int.mul_le_mul_of_nonneg_left (by omega) (by omega)
    rw [Int.mul_add, Int.mul_one] at l1
    rw [if_neg (by omega)]
    omega
  · have e6 : K * (q + 1 * P) = K * q + K * P := by rw [Int.one_mul, Int.mul_add]
    rw [e6]
    have l0 : 0 ≤ K * q := Int.mul_nonneg (by omega) hq
    rw [if_pos (by omega)]
    omega
theorem right_step {k : Nat} {x M : Int} : nextV .right M (rightF x k) = rightF x (k + 1) := by
  show x / two k / 2 = x / two (k + 1)
  rw [Int.ediv_ediv_of_nonneg (Int.le_of_lt (two_pos k)), two_succ, Int.mul_comm]
theorem down_step {N k : Nat} {x : Int} (hN : 0 < N) (hx : 0 ≤ x ∧ x < two N) : nextV .down (two N) (downF N x k) = downF N x (k + 1) := by
  show (downF N x k + (if two N ≤ 2 * downF N x k then two N else 0)) / 2 = downF N x (k + 1)
  have hK := two_pos k
  have hcut : ∀ y : Int, y / two k / 2 = y / two (k + 1) := fun y => by rw [Int.ediv_ediv_of_nonneg (Int.le_of_lt (two_pos k)), two_succ, Int.mul_comm]
  unfold downF
  by_cases hc : two N ≤ 2 * x
  · rw [if_pos hc, if_pos hc]
    have l : x - two N ≤ (x - two N) / two k := by
      refine Int.le_ediv_of_mul_le hK ?_
      have : (x - two N) * two k ≤ (x - two N) * 1 := Int.mul_le_mul_of_nonpos_left (by omega) (by omega)
      omega
    rw [if_pos (by omega), ← hcut]
    generalize (x - two N) / two k = E
    omega
  · rw [if_neg hc, if_neg hc]
    have l : x / two k ≤ x := Int.ediv_le_self _ hx.1
    rw [if_neg (by omega), Int.add_zero, hcut]
end Ww

set_option Elab.async false
set_option linter.all false
set_option maxRecDepth 100000
set_option maxHeartbeats 1000000
/-! WP6: what each deed answers (no program in sight). -/
namespace Ww
open PySem
/-- the sizes of the law -/
structure Sz (w n : Int) (m N : Nat) : Prop where
  hw : 4 ≤ w ∧ w ≤ 16
  hn : 1 ≤ n ∧ n ≤ 4
  hm : n.toNat = m
  hN : (w * n).toNat = N
section
variable {w n x y s : Int} {m N : Nat}
theorem Sz.nm (z : Sz w n m N) : n = m := by
  have := z.hm
  have := z.hn
  omega
theorem Sz.m0 (z : Sz w n m N) : 0 < m := by
  have := z.hm
  have := z.hn
  omega
theorem Sz.W4 (z : Sz w n m N) : 4 ≤ pw w := by
  have h : pw 4 ≤ pw w := pw_le z.hw.1
  have e : pw 4 = 16 := rfl
  omega
theorem Sz.even (z : Sz w n m N) : 2 * (pw w / 2) = pw w := by
  have hw := z.hw
  have e : pw w = pw (w - 1 + 1) := by rw [show w - 1 + 1 = w by omega]
  rw [pw_add (by omega) (by decide)] at e
  have e1 : pw 1 = 2 := rfl
  rw [e1] at e
  omega
theorem Sz.top (z : Sz w n m N) : pw w ^ m = two N := by
  have hw := z.hw
  have hn := z.hn
  have e : (w * n).toNat = w.toNat * n.toNat := by
    have h1 : ((w.toNat * n.toNat : Nat) : Int) = w * n := by
      rw [Int.natCast_mul]
      rw [show ((w.toNat : Nat) : Int) = w by omega, show ((n.toNat : Nat) : Int) = n by omega]
    omega
  unfold pw two
  rw [← z.hN, e, Int.pow_mul, z.hm]
theorem Sz.topW (z : Sz w n m N) : pw (w * n) = two N := by
  unfold pw two
  rw [z.hN]
theorem Sz.pos (z : Sz w n m N) : 0 < pw w := pw_pos w
end
theorem get_fun {s : MS} {l : Lt} : (fun q => s.get l q) = s.get l := rfl
/-! ### shifts -/
section
variable {w n x s : Int} {m N : Nat}
theorem copied_inv (z : Sz w n m N) (hx : 0 ≤ x ∧ x < two N) (y : Int) : Inv (pw w) m ((runRows (pw w) (beginS (pw w) n x y) ((List.range n.toNat).map mvR)).flag 0) x := by
  obtain ⟨p1, p2, p3⟩ := pass_put (W := pw w) (R := mvR) (V := fun s j => s.get .a (j : Nat)) (fun s j => rfl) (fun s s' j e => e .a) (beginS (pw w) n x y) n.toNat
  have hc : ∀ j : Nat, j < m → ((runRows (pw w) (beginS (pw w) n x y) ((List.range n.toNat).map mvR)).flag 0).get .c j = wordAt (pw w) x j := fun j hj => by
    rw [get_flag, p2 j (by rw [z.hm]; exact hj)]
    exact begin_a (by rw [z.hm]; exact hj)
  refine ⟨fun j hj => ?_, ?_, by show (0 : Int) ≤ 0 ∧ (0 : Int) ≤ 1; decide⟩
  · rw [hc j hj]
    exact word_in z.pos
  · exact val_of z.pos hx.1 (by rw [z.top]; exact hx.2) hc
theorem told_shift (z : Sz w n m N) (hx : 0 ≤ x ∧ x < two N) (k : Sh) {F : Nat → Int} (h0 : F 0 = x) (hF : ∀ j : Nat, j < s.toNat → nextV k (two N) (F j) = F (j + 1)) : told (.shift k s) w n x 0 = F s.toNat := by
  have hn0 : 0 ≤ n := by have := z.hn; omega
  have i := many_rounds (W := pw w) (n := n) (m := m) (s := (runRows (pw w) (beginS (pw w) n x 0) ((List.range n.toNat).map mvR)).flag 0) k z.nm z.m0 z.W4 z.even (F := F) (by rw [h0]; exact copied_inv z hx 0) s.toNat (by rw [z.top]; exact hF)
  rw [told_val, z.hm]
  have e : ∀ q, (ranS (.shift k s) w n x 0).get .c q = (runRows (pw w) ((runRows (pw w) (beginS (pw w) n x 0) ((List.range n.toNat).map mvR)).flag 0) (roundsR n k s.toNat)).get .c q := fun q => by
    show (runRows (pw w) (beginS (pw w) n x 0) (unroll w n (shiftT k s))).get .c q = _
    rw [unroll_shift hn0, run_app, ends_keep ⟨by decide, by decide, by decide⟩, run_app, tail_keep (by decide), run_app, run_app]
    rfl
  rw [val_congr (W := pw w) fun j _ => e j]
  exact i.v
theorem told_left (z : Sz w n m N) (hx : 0 ≤ x ∧ x < two N) (hs : 0 ≤ s ∧ s ≤ N) : told (.shift .left s) w n x 0 = leftF N x s.toNat :=
  told_shift z hx .left (by
    show 1 * (x % two (N - 0)) = x
    rw [Int.one_mul, Nat.sub_zero]
    exact Int.emod_eq_of_lt hx.1 hx.2) fun j hj => left_step (by omega)
theorem told_roll (z : Sz w n m N) (hx : 0 ≤ x ∧ x < two N) (hs : 0 ≤ s ∧ s ≤ N) : told (.shift .roll s) w n x 0 = rollF N x s.toNat :=
  told_shift z hx .roll (by
    show 1 * (x % two (N - 0)) + x / two (N - 0) = x
    rw [Int.one_mul, Nat.sub_zero, Int.emod_eq_of_lt hx.1 hx.2, Int.ediv_eq_zero_of_lt hx.1 hx.2]
    omega) fun j hj => roll_step (by omega) hx
theorem told_right (z : Sz w n m N) (hx : 0 ≤ x ∧ x < two N) : told (.shift .right s) w n x 0 = rightF x s.toNat :=
  told_shift z hx .right (Int.ediv_one x) fun j hj => right_step
theorem told_down (z : Sz w n m N) (hN : 0 < N) (hx : 0 ≤ x ∧ x < two N) : told (.shift .down s) w n x 0 = downF N x s.toNat :=
  told_shift z hx .down (by
    unfold downF
    have e : two 0 = 1 := rfl
    rw [e, Int.ediv_one, Int.ediv_one]
    split <;> omega) fun j hj => down_step hN hx
end
/-! ### sums -/
section
variable {w n x y : Int} {m N : Nat}
def sumU (W x y : Int) (q : Int) : Int := wordAt W x q.toNat + wordAt W y q.toNat
def sum1 (w n x y : Int) : MS := runRows (pw w) ((beginS (pw w) n x y).flag 0) ((List.range n.toNat).map (opR .sum))
theorem cy_congr {W : Int} {u v : Int → Int} {g : Int} : ∀ {k : Nat}, (∀ j : Nat, j < k → u j = v j) → cy W u g k = cy W v g k
  | 0, _ => rfl
  | k + 1, h => by
    show (u k + cy W u g k) / W = (v k + cy W v g k) / W
    rw [cy_congr (k := k) fun j hj => h j (by omega), h k (by omega)]
theorem sum_pass (z : Sz w n m N) (x y : Int) : (∀ l q, l ≠ .c → (sum1 w n x y).get l q = (beginS (pw w) n x y).get l q) ∧ (∀ j : Nat, j < m → (sum1 w n x y).get .c j = (sumU (pw w) x y j + cy (pw w) (sumU (pw w) x y) 0 j) % pw w) ∧ (sum1 w n x y).g = cy (pw w) (sumU (pw w) x y) 0 m := by
  obtain ⟨p1, p2, p3⟩ := pass_up (W := pw w) (R := opR .sum) (U := fun s j => s.get .a (j : Nat) + s.get .b (j : Nat)) (fun s j => rfl) (fun s s' j e => by show s.get .a (j : Nat) + s.get .b (j : Nat) = s'.get .a (j : Nat) + s'.get .b (j : Nat); rw [e, e]) ((beginS (pw w) n x y).flag 0) n.toNat
  have hu : ∀ j : Nat, j < m → ((beginS (pw w) n x y).flag 0).get .a (j : Nat) + ((beginS (pw w) n x y).flag 0).get .b (j : Nat) = sumU (pw w) x y j := fun j hj => by
    rw [get_flag, get_flag, begin_a (by rw [z.hm]; exact hj), begin_b (by rw [z.hm]; exact hj)]
    rfl
  have hcy : ∀ k : Nat, k ≤ m → cy (pw w) (fun q : Int => ((beginS (pw w) n x y).flag 0).get .a (q.toNat : Nat) + ((beginS (pw w) n x y).flag 0).get .b (q.toNat : Nat)) 0 k = cy (pw w) (sumU (pw w) x y) 0 k := fun k hk => cy_congr fun j hj => hu j (by omega)
  rw [z.hm] at p1 p2 p3
  have es : sum1 w n x y = runRows (pw w) ((beginS (pw w) n x y).flag 0) ((List.range m).map (opR .sum)) := by
    unfold sum1
    rw [z.hm]
  rw [es]
  refine ⟨fun l q hl => p1 l q fun zz => hl zz.1, fun j hj => ?_, ?_⟩
  · rw [p2 j hj]
    have e1 := hu j hj
    have e2 := hcy j (by omega)
    show ((((beginS (pw w) n x y).flag 0).get .a (j : Nat) + ((beginS (pw w) n x y).flag 0).get .b (j : Nat)) + cy (pw w) _ 0 j) % pw w = _
    rw [e1, e2]
  · rw [p3]
    exact hcy m (Nat.le_refl _)
theorem sum_val (z : Sz w n m N) (hx : 0 ≤ x ∧ x < two N) (hy : 0 ≤ y ∧ y < two N) : ∃ g, (g = 0 ∨ g = 1) ∧ val (pw w) ((sum1 w n x y).get .c) m + two N * g = x + y ∧ (0 ≤ val (pw w) ((sum1 w n x y).get .c) m ∧ val (pw w) ((sum1 w n x y).get .c) m < two N) := by
  obtain ⟨p1, p2, p3⟩ := sum_pass z x y
  have hW := z.pos
  have hw : words (pw w) ((sum1 w n x y).get .c) m := fun j hj => by
    rw [p2 j hj]
    exact ⟨Int.emod_nonneg _ (by omega), Int.emod_lt_of_pos _ hW⟩
  have hv := cy_val (W := pw w) (u := sumU (pw w) x y) (g := 0) (c := (sum1 w n x y).get .c) (n := m) p2
  have hb := cy_bit (W := pw w) (u := sumU (pw w) x y) (g := 0) (n := m) hW ⟨by decide, by decide⟩ fun j hj => by
    have h1 := word_in (x := x) (k := j) hW
    have h2 := word_in (x := y) (k := j) hW
    show 0 ≤ wordAt (pw w) x j + wordAt (pw w) y j ∧ wordAt (pw w) x j + wordAt (pw w) y j ≤ 2 * (pw w - 1)
    omega
  have ex : val (pw w) (fun q : Int => wordAt (pw w) x q.toNat) m = x := val_of hW hx.1 (by rw [z.top]; exact hx.2) fun j hj => rfl
  have ey : val (pw w) (fun q : Int => wordAt (pw w) y q.toNat) m = y := val_of hW hy.1 (by rw [z.top]; exact hy.2) fun j hj => rfl
  have eu : val (pw w) (sumU (pw w) x y) m = x + y := by
    have := val_add (W := pw w) (a := fun q : Int => wordAt (pw w) x q.toNat) (b := fun q : Int => wordAt (pw w) y q.toNat) m
    rw [ex, ey] at this
    exact this
  rw [eu, z.top, Int.add_zero] at hv
  have h0 := val_nonneg hW hw
  have h1 := val_lt hW hw
  rw [z.top] at h1
  exact ⟨_, by omega, hv, h0, h1⟩
/-- the rows behind the sum -/
def midT : Tell := signsT ++ [.row (.two .odd (cl .s 3) (cl .s) (cl .s 2)), .row (.two .odd (cl .s 4) (cl .s 1) (cl .s 2)), .row (.two .both (cl .m 1) (cl .s 3) (cl .s 4))]
theorem ran_sum (z : Sz w n m N) (x y : Int) : ranS .sum w n x y = runRows (pw w) (runRows (pw w) (runRows (pw w) (sum1 w n x y) (unroll w n (markTo 0))) (unroll w n midT)) (endsR n) := by
  have hn0 : 0 ≤ n := by have := z.hn; omega
  show runRows (pw w) (beginS (pw w) n x y) (unroll w n sumT) = _
  rw [unroll_sum hn0, run_app, run_app, run_app, run_app, run_app]
  unfold midT
  rw [unroll_app, run_app]
  rfl
/-- rows that leave a cell -/
def Row.to? {α : Type} : Row α → Option (Cl α)
  | .mark _ => none
  | .ask _ => none
  | .set to _ => some to
  | .one _ to _ => some to
  | .two _ to _ _ => some to
theorem step_keepP {W : Int} {s : MS} {r : RowP} {l : Lt} {q : Int} (h : ∀ c, r.to? = some c → ¬ (l = c.l ∧ q = c.p)) : (rowStep W s r).get l q = s.get l q := by
  cases r with
  | mark d => rfl
  | ask x => rfl
  | set to d =>
    show (s.put to d).get l q = _
    rw [get_put, if_neg (h to rfl)]
  | one o to x =>
    have hl : ∀ v, (s.put to v).get l q = s.get l q := fun v => by rw [get_put, if_neg (h to rfl)]
    cases o <;> exact hl _
  | two o to x y =>
    have hl : ∀ v, (s.put to v).get l q = s.get l q := fun v => by rw [get_put, if_neg (h to rfl)]
    cases o <;> exact hl _
theorem run_keepP {W : Int} {l : Lt} {q : Int} : ∀ (rs : List RowP) (s : MS), (∀ r ∈ rs, ∀ c, r.to? = some c → ¬ (l = c.l ∧ q = c.p)) → (runRows W s rs).get l q = s.get l q
  | [], _, _ => rfl
  | r :: rs, s, h => by
    rw [run_cons, run_keepP rs _ fun x hx => h x (List.mem_cons_of_mem _ hx)]
    exact step_keepP (h r (List.mem_cons_self ..))
theorem mid_keep {W w n : Int} {s : MS} {l : Lt} {q : Int} (h : l = .c ∨ l = .z ∨ (l = .m ∧ q = 0)) : (runRows W s (unroll w n midT)).get l q = s.get l q := by
  refine run_keepP _ _ fun r hr c hc => ?_
  have h2 : (c.l = .t ∨ c.l = .s) ∨ (c.l = .m ∧ c.p = 1) := by
    have e : unroll w n midT = (signsT ++ [.row (.two .odd (cl .s 3) (cl .s) (cl .s 2)), .row (.two .odd (cl .s 4) (cl .s 1) (cl .s 2)), .row (.two .both (cl .m 1) (cl .s 3) (cl .s 4))] : Tell).flatMap (unroll2 w n) := rfl
    rw [e] at hr
    simp only [signsT, List.cons_append, List.nil_append, List.flatMap_cons, List.flatMap_nil, List.append_nil, unroll2, List.mem_cons, List.not_mem_nil, or_false] at hr
    rcases hr with rfl | rfl | rfl | rfl | rfl | rfl | rfl | rfl | rfl | rfl | rfl | rfl <;> first
      | (cases hc; exact .inl (.inl rfl))
      | (cases hc; exact .inl (.inr rfl))
      | (cases hc; exact .inr ⟨rfl, at0 1 0 0 n⟩)
      | cases hc
  rintro ⟨rfl, rfl⟩
  rcases h with h | h | ⟨h, h3⟩ <;> rcases h2 with (h2 | h2) | ⟨h2, h4⟩ <;> rw [h] at h2 <;> first | (cases h2; done) | omega
end
end Ww

set_option Elab.async false
set_option linter.all false
set_option maxRecDepth 100000
set_option maxHeartbeats 1000000
/-! WP7: the marks; words that share no bit (no program in sight). -/
namespace Ww
open PySem
/-! ### the rows behind the answer -/
def orF (c : Int → Int) : Nat → Int
  | 0 => 0
  | k + 1 => Builtin.bitOr (orF c k) (c k)
theorem orF_congr {c e : Int → Int} : ∀ {k : Nat}, (∀ j : Nat, j < k → c j = e j) → orF c k = orF e k
  | 0, _ => rfl
  | k + 1, h => by
    show Builtin.bitOr (orF c k) (c k) = Builtin.bitOr (orF e k) (e k)
    rw [orF_congr (k := k) fun j hj => h j (by omega), h k (by omega)]
def anyR (i : Nat) : RowP := .two .any ⟨.t, 0⟩ ⟨.t, 0⟩ ⟨.c, (i : Nat)⟩
theorem pass_any {W : Int} {s : MS} (ht : s.get .t 0 = 0) : ∀ k : Nat, (∀ (l : Lt) (q : Int), l ≠ .t → (runRows W s ((List.range k).map anyR)).get l q = s.get l q) ∧ (runRows W s ((List.range k).map anyR)).get .t 0 = orF (s.get .c) k ∧ (runRows W s ((List.range k).map anyR)).g = s.g
  | 0 => ⟨fun _ _ _ => rfl, ht, rfl⟩
  | k + 1 => by
    obtain ⟨h1, h2, h3⟩ := pass_any (W := W) ht k
    rw [run_snoc]
    have e : rowStep W (runRows W s ((List.range k).map anyR)) (anyR k) = (runRows W s ((List.range k).map anyR)).put ⟨.t, 0⟩ (Builtin.bitOr ((runRows W s ((List.range k).map anyR)).get .t 0) ((runRows W s ((List.range k).map anyR)).get .c (k : Nat))) := rfl
    rw [e, h2, h1 .c _ (by decide)]
    refine ⟨fun l q hl => ?_, ?_, ?_⟩
    · rw [get_put, if_neg (fun z => hl z.1)]
      exact h1 l q hl
    · rw [get_put, if_pos ⟨rfl, rfl⟩]
      rfl
    · rw [g_put, h3]
theorem ends_form {W n : Int} {s : MS} (hz : s.get .z 0 = 0) : (runRows W s (endsR n)).get .m 2 = (1 - 0 - (if orF (s.get .c) n.toNat ≠ 0 then 1 else 0)) % W ∧ (runRows W s (endsR n)).get .m 3 = (0 + 0 + (2 * s.get .c (n - 1) + 0) / W) % W ∧ (runRows W s (endsR n)).get .m 0 = s.get .m 0 := by
  obtain ⟨p1, p2, p3⟩ := pass_any (W := W) (s := s.put ⟨.t, 0⟩ 0) (by rw [get_put, if_pos ⟨rfl, rfl⟩]) n.toNat
  have hc : ∀ q, (s.put ⟨.t, 0⟩ 0).get .c q = s.get .c q := fun q => by rw [get_put, if_neg (fun z => by cases z.1)]
  have hc2 : (s.put ⟨.t, 0⟩ 0).get .c = s.get .c := funext hc
  rw [hc2] at p2
  have e : runRows W s (endsR n) = runRows W (runRows W (s.put ⟨.t, 0⟩ 0) ((List.range n.toNat).map anyR)) [.ask ⟨.t, 0⟩, .set ⟨.u, 0⟩ 1, .two .less ⟨.m, 2⟩ ⟨.u, 0⟩ ⟨.z, 0⟩, .mark 0, .one .twice ⟨.t, 0⟩ ⟨.c, n - 1⟩, .two .sum ⟨.m, 3⟩ ⟨.z, 0⟩ ⟨.z, 0⟩] := by
    unfold endsR
    rw [run_app, run_app]
    rfl
  rw [e]
  have q1 : ∀ (l : Lt) (q : Int), l ≠ .t → (runRows W (s.put ⟨.t, 0⟩ 0) ((List.range n.toNat).map anyR)).get l q = s.get l q := fun l q hl => by
    rw [p1 l q hl, get_put, if_neg (fun z => hl z.1)]
  generalize runRows W (s.put ⟨.t, 0⟩ 0) ((List.range n.toNat).map anyR) = t at p2 q1
  have z1 : t.get .z 0 = 0 := by rw [q1 .z 0 (by decide), hz]
  have c1 : t.get .c (n - 1) = s.get .c (n - 1) := q1 .c _ (by decide)
  have m1 : t.get .m 0 = s.get .m 0 := q1 .m 0 (by decide)
  rw [← p2, ← c1, ← m1]
  simp [run_cons, run_nil, rowStep, MS.split, at_get', get_put, get_flag, g_put, g_flag, z1]
  by_cases h0 : t.get .t 0 = 0 <;> simp [h0]
theorem marks_same {W n : Int} {s t : MS} (hn : 1 ≤ n) (hs : s.get .z 0 = 0) (ht : t.get .z 0 = 0) (hc : ∀ j : Nat, j < n.toNat → s.get .c j = t.get .c j) (h0 : s.get .m 0 = t.get .m 0) : (runRows W s (endsR n)).get .m 0 = (runRows W t (endsR n)).get .m 0 ∧ (runRows W s (endsR n)).get .m 2 = (runRows W t (endsR n)).get .m 2 ∧ (runRows W s (endsR n)).get .m 3 = (runRows W t (endsR n)).get .m 3 := by
  obtain ⟨a1, a2, a3⟩ := ends_form (W := W) (n := n) hs
  obtain ⟨b1, b2, b3⟩ := ends_form (W := W) (n := n) ht
  have e1 : orF (s.get .c) n.toNat = orF (t.get .c) n.toNat := orF_congr hc
  have e2 : s.get .c (n - 1) = t.get .c (n - 1) := by
    have h := hc (n - 1).toNat (by omega)
    rw [show (((n - 1).toNat : Nat) : Int) = n - 1 by omega] at h
    exact h
  rw [a1, a2, a3, b1, b2, b3, e1, e2, h0]
  exact ⟨rfl, rfl, rfl⟩
section
variable {w n x y : Int} {m N : Nat}
theorem mark_to0 {W : Int} {s : MS} (hz : s.get .z 0 = 0) : (∀ (l : Lt) (q : Int), l ≠ .m → (runRows W s (unroll w n (markTo 0))).get l q = s.get l q) ∧ (runRows W s (unroll w n (markTo 0))).get .m 0 = s.g % W := by
  have e : unroll w n (markTo 0) = [.two .sum ⟨.m, 0⟩ ⟨.z, 0⟩ ⟨.z, 0⟩] := by
    show [plainRow n 0 0 (.two .sum (cl .m 0) naught naught)] = _
    simp only [plainRow, Row.map, Cl.map, cl, naught, at0]
  rw [e]
  refine ⟨fun l q hl => ?_, ?_⟩
  · show ((s.split W ⟨.m, 0⟩ _).get l q) = _
    rw [get_split, if_neg (fun z => hl z.1)]
  · show ((s.split W ⟨.m, 0⟩ (s.get .z 0 + s.get .z 0 + s.g)).get .m 0) = _
    rw [get_split, if_pos ⟨rfl, rfl⟩, hz, Int.add_zero, Int.zero_add]
theorem told_sum (z : Sz w n m N) (x y : Int) : told .sum w n x y = val (pw w) ((sum1 w n x y).get .c) m := by
  rw [told_val, z.hm, ran_sum z]
  refine val_congr fun j _ => ?_
  have hz : (sum1 w n x y).get .z 0 = 0 := by
    rw [(sum_pass z x y).1 .z 0 (by decide)]
    exact begin_o (by decide) (by decide)
  rw [ends_keep ⟨by decide, by decide, by decide⟩, mid_keep (.inl rfl), (mark_to0 (w := w) (n := n) hz).1 .c _ (by decide)]
/-- left by one place, before the marks -/
def left1 (w n x : Int) : MS := runRows (pw w) ((runRows (pw w) (beginS (pw w) n x 0) ((List.range n.toNat).map mvR)).flag 0) (roundsR n .left 1)
theorem left1_pass (z : Sz w n m N) (x : Int) : (∀ l q, l ≠ .c → (left1 w n x).get l q = (beginS (pw w) n x 0).get l q) ∧ (∀ j : Nat, j < m → (left1 w n x).get .c j = (sumU (pw w) x x j + cy (pw w) (sumU (pw w) x x) 0 j) % pw w) ∧ (left1 w n x).g = cy (pw w) (sumU (pw w) x x) 0 m := by
  obtain ⟨c1, c2, c3⟩ := pass_put (W := pw w) (R := mvR) (V := fun s j => s.get .a (j : Nat)) (fun s j => rfl) (fun s s' j e => e .a) (beginS (pw w) n x 0) n.toNat
  have es : left1 w n x = runRows (pw w) (((runRows (pw w) (beginS (pw w) n x 0) ((List.range n.toNat).map mvR)).flag 0).flag 0) ((List.range n.toNat).map twR) := by
    show runRows (pw w) _ (roundsR n .left (0 + 1)) = _
    rw [rounds_succ]
    rfl
  rw [es]
  generalize runRows (pw w) (beginS (pw w) n x 0) ((List.range n.toNat).map mvR) = t at c1 c2 c3
  obtain ⟨p1, p2, p3⟩ := pass_up (W := pw w) (R := twR) (U := fun s j => 2 * s.get .c (j : Nat)) (fun s j => rfl) (fun s s' j e => by show 2 * s.get .c (j : Nat) = 2 * s'.get .c (j : Nat); rw [e]) ((t.flag 0).flag 0) n.toNat
  have hu : ∀ j : Nat, j < m → 2 * ((t.flag 0).flag 0).get .c (j : Nat) = sumU (pw w) x x j := fun j hj => by
    rw [get_flag, get_flag, c2 j (by rw [z.hm]; exact hj), begin_a (by rw [z.hm]; exact hj)]
    show 2 * wordAt (pw w) x j = wordAt (pw w) x j + wordAt (pw w) x j
    omega
  have hcy : ∀ k : Nat, k ≤ m → cy (pw w) (fun q : Int => 2 * ((t.flag 0).flag 0).get .c (q.toNat : Nat)) 0 k = cy (pw w) (sumU (pw w) x x) 0 k := fun k hk => cy_congr fun j hj => hu j (by omega)
  rw [z.hm] at p1 p2 p3 ⊢
  refine ⟨fun l q hl => ?_, fun j hj => ?_, ?_⟩
  · rw [p1 l q fun zz => hl zz.1, get_flag, get_flag]
    exact c1 l q fun zz => hl zz.1
  · rw [p2 j hj]
    have e1 := hu j hj
    have e2 := hcy j (by omega)
    show (2 * ((t.flag 0).flag 0).get .c (j : Nat) + cy (pw w) _ 0 j) % pw w = _
    rw [e1, e2]
  · rw [p3]
    exact hcy m (Nat.le_refl _)
theorem ran_left1 (z : Sz w n m N) (x : Int) : ranS (.shift .left 1) w n x 0 = runRows (pw w) (runRows (pw w) (runRows (pw w) (left1 w n x) (unroll w n (markTo 0))) (unroll w n [.row (.set (cl .m 1) 0)])) (endsR n) := by
  have hn0 : 0 ≤ n := by have := z.hn; omega
  show runRows (pw w) (beginS (pw w) n x 0) (unroll w n (shiftT .left 1)) = _
  rw [unroll_shift hn0, run_app, run_app, run_app, run_app]
  show runRows (pw w) (runRows (pw w) (left1 w n x) (unroll w n (markTo 0 ++ [.row (.set (cl .m 1) 0)]))) (endsR n) = _
  rw [unroll_app, run_app]
theorem double_same (z : Sz w n m N) (x : Int) : told (.shift .left 1) w n x 0 = told .sum w n x x ∧ markOf (.shift .left 1) w n x 0 0 = markOf .sum w n x x 0 ∧ markOf (.shift .left 1) w n x 0 2 = markOf .sum w n x x 2 ∧ markOf (.shift .left 1) w n x 0 3 = markOf .sum w n x x 3 := by
  obtain ⟨a1, a2, a3⟩ := left1_pass z x
  obtain ⟨b1, b2, b3⟩ := sum_pass z x x
  have hza : (left1 w n x).get .z 0 = 0 := by
    rw [a1 .z 0 (by decide)]
    exact begin_o (by decide) (by decide)
  have hzb : (sum1 w n x x).get .z 0 = 0 := by
    rw [b1 .z 0 (by decide)]
    exact begin_o (by decide) (by decide)
  obtain ⟨k1, k2⟩ := mark_to0 (w := w) (n := n) (W := pw w) hza
  obtain ⟨l1, l2⟩ := mark_to0 (w := w) (n := n) (W := pw w) hzb
  have hset : ∀ (s : MS) (l : Lt) (q : Int), ¬ (l = .m ∧ q = 1) → (runRows (pw w) s (unroll w n [.row (.set (cl .m 1) 0)])).get l q = s.get l q := fun s l q h => by
    have e : unroll w n [.row (.set (cl .m 1) 0)] = [.set ⟨.m, 1⟩ 0] := by
      show [plainRow n 0 0 (.set (cl .m 1) 0)] = _
      simp only [plainRow, Row.map, Cl.map, cl, at0]
    rw [e]
    show (s.put ⟨.m, 1⟩ 0).get l q = _
    rw [get_put, if_neg h]
  have hc : ∀ j : Nat, j < n.toNat → (runRows (pw w) (runRows (pw w) (left1 w n x) (unroll w n (markTo 0))) (unroll w n [.row (.set (cl .m 1) 0)])).get .c j = (runRows (pw w) (runRows (pw w) (sum1 w n x x) (unroll w n (markTo 0))) (unroll w n midT)).get .c j := fun j hj => by
    rw [hset _ .c _ (fun z => by cases z.1), k1 .c _ (by decide), mid_keep (.inl rfl), l1 .c _ (by decide), a2 j (by rw [← z.hm]; exact hj), b2 j (by rw [← z.hm]; exact hj)]
  have hm := marks_same (W := pw w) (n := n) z.hn.1 (s := runRows (pw w) (runRows (pw w) (left1 w n x) (unroll w n (markTo 0))) (unroll w n [.row (.set (cl .m 1) 0)])) (t := runRows (pw w) (runRows (pw w) (sum1 w n x x) (unroll w n (markTo 0))) (unroll w n midT))
    (by rw [hset _ .z _ (fun z => by cases z.1), k1 .z _ (by decide), hza]) (by rw [mid_keep (.inr (.inl rfl)), l1 .z _ (by decide), hzb]) hc
    (by rw [hset _ .m _ (fun z => by have := z.2; omega), k2, mid_keep (.inr (.inr ⟨rfl, rfl⟩)), l2, a3, b3])
  rw [← ran_left1 z, ← ran_sum z] at hm
  refine ⟨?_, hm.1, hm.2.1, hm.2.2⟩
  rw [told_val, told_val]
  refine val_congr fun j hj => ?_
  rw [ran_left1 z, ran_sum z, ends_keep ⟨by decide, by decide, by decide⟩, ends_keep ⟨by decide, by decide, by decide⟩]
  exact hc j hj
/-! ### and, or -/
theorem told_two (z : Sz w n m N) (o : Two) {V : Int → Int → Int} (hV : ∀ (s : MS) (j : Nat), rowStep (pw w) s (opR o j) = s.put ⟨.c, (j : Nat)⟩ (V (s.get .a (j : Nat)) (s.get .b (j : Nat)))) {d : Deed} (hd : d.tell = twosT o) (x y : Int) : told d w n x y = val (pw w) (fun q : Int => V (wordAt (pw w) x q.toNat) (wordAt (pw w) y q.toNat)) m := by
  have hn0 : 0 ≤ n := by have := z.hn; omega
  obtain ⟨p1, p2, p3⟩ := pass_put (W := pw w) (R := opR o) (V := fun s j => V (s.get .a (j : Nat)) (s.get .b (j : Nat))) hV (fun s s' j e => by show V (s.get .a (j : Nat)) (s.get .b (j : Nat)) = V (s'.get .a (j : Nat)) (s'.get .b (j : Nat)); rw [e, e]) (beginS (pw w) n x y) n.toNat
  rw [told_val, z.hm]
  refine val_congr fun j hj => ?_
  show (runRows (pw w) (beginS (pw w) n x y) (unroll w n d.tell)).get .c j = _
  rw [hd, unroll_twos hn0, run_app, ends_keep ⟨by decide, by decide, by decide⟩, run_app]
  have hk := tail_keep (W := pw w) (w := w) (n := n) (s := runRows (pw w) (beginS (pw w) n x y) ((List.range n.toNat).map (opR o))) (k := .roll) (l := .c) (q := j) (by decide)
  have e : tailT .roll = noMarks := rfl
  rw [e] at hk
  rw [hk, p2 j (by rw [z.hm]; exact hj)]
  show V ((beginS (pw w) n x y).get .a (j : Nat)) ((beginS (pw w) n x y).get .b (j : Nat)) = _
  rw [begin_a (by rw [z.hm]; exact hj), begin_b (by rw [z.hm]; exact hj)]
  rfl
theorem cutW_eq {W x : Int} (hW : 0 < W) : ∀ k : Nat, cutW W x k = x / W ^ k
  | 0 => by
    show x = x / W ^ 0
    rw [Int.pow_zero, Int.ediv_one]
  | k + 1 => by
    show cutW W x k / W = x / W ^ (k + 1)
    rw [cutW_eq hW k, Int.pow_succ, Int.ediv_ediv_of_nonneg (Int.le_of_lt (powI_pos hW k))]
theorem word_nat {w x : Int} (hx : 0 ≤ x) (j : Nat) : wordAt (pw w) x j = ((x.toNat / 2 ^ (w.toNat * j) % 2 ^ w.toNat : Nat) : Int) := by
  unfold wordAt
  rw [cutW_eq (pw_pos w), pw_eq]
  have e : ((2 ^ w.toNat : Nat) : Int) ^ j = ((2 ^ (w.toNat * j) : Nat) : Int) := by
    rw [← Int.natCast_pow, ← Nat.pow_mul]
  rw [e]
  have ex : x = ((x.toNat : Nat) : Int) := by omega
  rw [ex, Int.toNat_natCast]
  rfl
theorem and_zero {w x y : Int} (hx : 0 ≤ x) (hy : 0 ≤ y) (h : x.toNat &&& y.toNat = 0) (j : Nat) : Builtin.bitAnd (wordAt (pw w) x j) (wordAt (pw w) y j) = 0 := by
  have h1 := word_in (x := x) (k := j) (pw_pos w)
  have h2 := word_in (x := y) (k := j) (pw_pos w)
  rw [PyProof.Rows.bitAnd_pp h1.1 h2.1, word_nat hx, word_nat hy, Int.toNat_natCast, Int.toNat_natCast, ← Nat.and_mod_two_pow, ← Nat.and_div_two_pow, h, Nat.zero_div, Nat.zero_mod]
  rfl
theorem low_high {a q l : Nat} (h : l < 2 ^ a) : l &&& (q * 2 ^ a) = 0 := by
  refine Nat.eq_of_testBit_eq fun i => ?_
  rw [Nat.testBit_and, Nat.testBit_mul_two_pow, Nat.zero_testBit]
  by_cases hi : a ≤ i
  · rw [Nat.testBit_lt_two_pow (Nat.lt_of_lt_of_le h (Nat.pow_le_pow_right (by decide) hi)), Bool.false_and]
  · rw [decide_eq_false hi, Bool.false_and, Bool.and_false]
theorem told_both (z : Sz w n m N) (hx : 0 ≤ x) (hy : 0 ≤ y) (h : x.toNat &&& y.toNat = 0) : told .both w n x y = 0 := by
  rw [told_two z .both (V := Builtin.bitAnd) (fun s j => rfl) rfl x y]
  have e : ∀ k : Nat, val (pw w) (fun q : Int => Builtin.bitAnd (wordAt (pw w) x q.toNat) (wordAt (pw w) y q.toNat)) k = 0 := fun k => by
    induction k with
    | zero => rfl
    | succ k ih =>
      show val _ _ k + Builtin.bitAnd (wordAt (pw w) x ((k : Nat) : Int).toNat) (wordAt (pw w) y ((k : Nat) : Int).toNat) * _ = 0
      rw [ih, and_zero hx hy h, Int.zero_mul]
      rfl
  exact e m
theorem told_any (z : Sz w n m N) (hx : 0 ≤ x ∧ x < two N) (hy : 0 ≤ y ∧ y < two N) (h : x.toNat &&& y.toNat = 0) : told .any w n x y = x + y := by
  rw [told_two z .any (V := Builtin.bitOr) (fun s j => rfl) rfl x y]
  have hW := z.pos
  have ex : val (pw w) (fun q : Int => wordAt (pw w) x q.toNat) m = x := val_of hW hx.1 (by rw [z.top]; exact hx.2) fun j hj => rfl
  have ey : val (pw w) (fun q : Int => wordAt (pw w) y q.toNat) m = y := val_of hW hy.1 (by rw [z.top]; exact hy.2) fun j hj => rfl
  have e := val_add (W := pw w) (a := fun q : Int => wordAt (pw w) x q.toNat) (b := fun q : Int => wordAt (pw w) y q.toNat) m
  rw [ex, ey] at e
  rw [← e]
  refine val_congr fun j hj => ?_
  show Builtin.bitOr _ _ = _
  rw [PyProof.Rows.bitOr_and, and_zero hx.1 hy.1 h]
  omega
end
end Ww

set_option Elab.async false
set_option linter.all false
set_option maxRecDepth 100000
set_option maxHeartbeats 1000000
/-! WP8: the tellings are good (no program in sight). -/
namespace Ww
open PySem
section
variable {w n x y s : Int} {m N : Nat}
theorem ok_flat {t : Tell} (h1 : t.length ≤ 100000) (h2 : ∀ p ∈ t, P2.ok p ∧ few2 p) (h3 : (unroll w n t).length ≤ 4000) (h4 : ∀ r ∈ unroll w n t, Row.ok place r) (h5 : (t.map (cnt2 w n)).sum ≤ 4000) : tellOk w n t := ⟨⟨h1, h2⟩, ⟨h3, h4⟩, h5⟩
theorem ends_ok (z : Sz w n m N) : ∀ r ∈ endsR n, Row.ok place r := by
  have hn := z.hn
  intro r hr
  unfold endsR at hr
  simp only [List.mem_append, List.mem_cons, List.not_mem_nil, or_false, List.mem_map, List.mem_range] at hr
  rcases hr with (rfl | ⟨i, hi, rfl⟩) | rfl | rfl | rfl | rfl | rfl | rfl <;> simp only [Row.ok, place, dig] <;> omega
theorem ends_len (z : Sz w n m N) : (endsR n).length ≤ 11 := by
  have hn := z.hn
  unfold endsR
  simp only [List.length_append, List.length_cons, List.length_nil, List.length_map, List.length_range]
  omega
theorem op_ok (z : Sz w n m N) (o : Two) : ∀ r ∈ (List.range n.toNat).map (opR o), Row.ok place r := by
  have hn := z.hn
  intro r hr
  simp only [List.mem_map, List.mem_range] at hr
  obtain ⟨j, hj, rfl⟩ := hr
  simp only [opR, Row.ok, place]
  omega
theorem const_ok {r : RowI} (hn : 1 ≤ n ∧ n ≤ 4) (h : Row.ok (fun p : Ix => p = ⟨p.c, 0, 0, 0⟩ ∧ place p.c ∨ p = ⟨-1, 0, 0, 1⟩) r) : Row.ok place (plainRow n 0 0 r) := by
  have one : ∀ p : Ix, (p = ⟨p.c, 0, 0, 0⟩ ∧ place p.c ∨ p = ⟨-1, 0, 0, 1⟩) → place (p.at n 0 0) := by
    intro p hp
    rcases hp with ⟨h1, h2⟩ | h1
    · rw [h1, at0]
      exact h2
    · rw [h1, at_h]
      unfold place
      omega
  cases r with
  | mark d => exact h
  | ask c => exact one _ h
  | set to d => exact ⟨one _ h.1, h.2⟩
  | one o to c => exact ⟨one _ h.1, one _ h.2⟩
  | two o to c e => exact ⟨one _ h.1, one _ h.2.1, one _ h.2.2⟩
theorem rows_ok (hn : 1 ≤ n ∧ n ≤ 4) (rs : List RowI) (h : ∀ r ∈ rs, Row.ok (fun p : Ix => p = ⟨p.c, 0, 0, 0⟩ ∧ place p.c ∨ p = ⟨-1, 0, 0, 1⟩) r) : ∀ r ∈ unroll w n (rs.map fun r => .row r), Row.ok place r := by
  intro r hr
  have e : unroll w n (rs.map fun r => .row r) = rs.map (plainRow n 0 0) := by
    unfold unroll
    rw [List.flatMap_map]
    exact flat_one _ _
  rw [e] at hr
  obtain ⟨r', h1, rfl⟩ := List.mem_map.mp hr
  exact const_ok hn (h r' h1)
def midRows : List RowI := [.two .sum (cl .m 0) naught naught, .mark 0, .one .twice (cl .t) (cl .a (-1) 0 0 1), .two .sum (cl .s 0) naught naught, .mark 0, .one .twice (cl .t) (cl .b (-1) 0 0 1), .two .sum (cl .s 1) naught naught, .mark 0, .one .twice (cl .t) (cl .c (-1) 0 0 1), .two .sum (cl .s 2) naught naught, .two .odd (cl .s 3) (cl .s) (cl .s 2), .two .odd (cl .s 4) (cl .s 1) (cl .s 2), .two .both (cl .m 1) (cl .s 3) (cl .s 4)]
theorem mid_ok : ∀ r ∈ midRows, Row.ok (fun p : Ix => p = ⟨p.c, 0, 0, 0⟩ ∧ place p.c ∨ p = ⟨-1, 0, 0, 1⟩) r := by
  intro r hr
  unfold midRows at hr
  simp only [List.mem_cons, List.not_mem_nil, or_false] at hr
  rcases hr with rfl | rfl | rfl | rfl | rfl | rfl | rfl | rfl | rfl | rfl | rfl | rfl | rfl <;> simp [Row.ok, cl, naught, place, dig]
theorem sum_rows (h : 0 ≤ n) : unroll w n sumT = [.mark 0] ++ (List.range n.toNat).map (opR .sum) ++ unroll w n (midRows.map fun r => .row r) ++ endsR n := by
  rw [unroll_sum h]
  have e : unroll w n (midRows.map fun r => .row r) = unroll w n (markTo 0) ++ unroll w n signsT ++ unroll w n [.row (.two .odd (cl .s 3) (cl .s) (cl .s 2)), .row (.two .odd (cl .s 4) (cl .s 1) (cl .s 2)), .row (.two .both (cl .m 1) (cl .s 3) (cl .s 4))] := by
    rw [← unroll_app, ← unroll_app]
    rfl
  rw [e]
  simp only [List.append_assoc]
def tailRows : Sh → List RowI
  | .roll => [.set (cl .m) 0, .set (cl .m 1) 0]
  | _ => [.two .sum (cl .m 0) naught naught, .set (cl .m 1) 0]
theorem tail_ok (k : Sh) : ∀ r ∈ tailRows k, Row.ok (fun p : Ix => p = ⟨p.c, 0, 0, 0⟩ ∧ place p.c ∨ p = ⟨-1, 0, 0, 1⟩) r := by
  intro r hr
  cases k <;> simp only [tailRows, List.mem_cons, List.not_mem_nil, or_false] at hr <;> rcases hr with rfl | rfl <;> simp [Row.ok, cl, naught, place, dig]
theorem tail_rows (k : Sh) : tailT k = (tailRows k).map fun r => .row r := by
  cases k <;> rfl
theorem tail_len (k : Sh) : (unroll w n (tailT k)).length = 2 := by
  cases k <;> rfl
theorem pass_len (n : Int) (k : Sh) : (passR n k).length = n.toNat := by
  cases k <;> simp [passR, upR, dnR]
theorem rounds_len (k : Sh) : ∀ t : Nat, (roundsR n k t).length = t * (1 + n.toNat)
  | 0 => by
    rw [Nat.zero_mul]
    rfl
  | t + 1 => by
    rw [rounds_succ, List.length_append, rounds_len k t, List.length_cons, pass_len, Nat.succ_mul]
    omega
theorem round_ok (z : Sz w n m N) (k : Sh) : ∀ r ∈ aheadR n k :: passR n k, Row.ok place r := by
  have hn := z.hn
  intro r hr
  rcases List.mem_cons.mp hr with rfl | hr
  · cases k <;> simp only [aheadR, Row.ok, place, dig] <;> omega
  · cases k <;> simp only [passR, upR, dnR, List.mem_map, List.mem_range] at hr <;> obtain ⟨j, hj, rfl⟩ := hr <;> simp only [twR, hfR, Row.ok, place] <;> omega
theorem rounds_ok (z : Sz w n m N) (k : Sh) : ∀ (t : Nat), ∀ r ∈ roundsR n k t, Row.ok place r
  | 0, r, hr => by cases hr
  | t + 1, r, hr => by
    rw [rounds_succ] at hr
    rcases List.mem_append.mp hr with hr | hr
    · exact rounds_ok z k t r hr
    · exact round_ok z k r hr
/-! ### parts -/
theorem sum_parts : ∀ p ∈ sumT, P2.ok p ∧ few2 p := by
  intro p hp
  simp only [sumT, markTo, signsT, endsT, bareMarkTo, List.cons_append, List.nil_append, List.append_nil, List.mem_cons, List.not_mem_nil, or_false] at hp
  rcases hp with rfl | rfl | rfl | rfl | rfl | rfl | rfl | rfl | rfl | rfl | rfl | rfl | rfl | rfl | rfl | rfl | rfl | rfl | rfl | rfl | rfl | rfl | rfl <;>
    simp [P2.ok, Part.ok, P1.ok, RowI.ok, Row.ok, Ix.ok, bound, cl, naught, dig, timesN, Cnt.ok, Sent.ok, sumS, Term.ok, flat, Thing.ok, lowT, few2, few1]
theorem twos_parts (o : Two) : ∀ p ∈ twosT o, P2.ok p ∧ few2 p := by
  intro p hp
  simp only [twosT, noMarks, endsT, bareMarkTo, markTo, List.cons_append, List.nil_append, List.append_nil, List.mem_cons, List.not_mem_nil, or_false] at hp
  rcases hp with rfl | rfl | rfl | rfl | rfl | rfl | rfl | rfl | rfl | rfl | rfl <;>
    simp [P2.ok, Part.ok, P1.ok, RowI.ok, Row.ok, Ix.ok, bound, cl, naught, dig, timesN, Cnt.ok, Sent.ok, Term.ok, flat, Thing.ok, lowT, few2, few1]
theorem shift_parts (k : Sh) (hs : 0 ≤ s ∧ s ≤ 100) : ∀ p ∈ shiftT k s, P2.ok p ∧ few2 p := by
  intro p hp
  cases k <;> simp only [shiftT, copiedT, noMarks, endsT, bareMarkTo, markTo, List.cons_append, List.nil_append, List.append_nil, List.mem_cons, List.not_mem_nil, or_false] at hp <;>
  rcases hp with rfl | rfl | rfl | rfl | rfl | rfl | rfl | rfl | rfl | rfl | rfl | rfl | rfl <;>
    simp [P2.ok, Part.ok, P1.ok, RowI.ok, Row.ok, Ix.ok, bound, cl, naught, dig, timesN, Cnt.ok, Sent.ok, copyS, Term.ok, flat, Thing.ok, lowT, few2, few1, aheadT, onePlace, highest] <;> omega
end
end Ww

set_option Elab.async false
set_option linter.all false
set_option maxRecDepth 100000
set_option maxHeartbeats 1000000
/-! WP9: the plain law (no program in sight). -/
namespace Ww
open PySem
section
variable {w n x y s : Int} {m N : Nat}
theorem tell_sum (z : Sz w n m N) : tellOk w n sumT := by
  have hn := z.hn
  have h0 : 0 ≤ n := by omega
  refine ok_flat (by decide) sum_parts ?_ ?_ ?_
  · have h13 : (unroll w n (midRows.map fun r => .row r)).length = 13 := rfl
    have he := ends_len z
    rw [sum_rows h0, List.length_append, List.length_append, List.length_append, h13, List.length_map, List.length_range]
    simp only [List.length_cons, List.length_nil]
    omega
  · intro r hr
    rw [sum_rows h0] at hr
    simp only [List.mem_append, List.mem_singleton] at hr
    rcases hr with ((rfl | hr) | hr) | hr
    · show (0 : Int) ≤ 0 ∧ (0 : Int) ≤ 1
      decide
    · exact op_ok z .sum r hr
    · exact rows_ok hn midRows mid_ok r hr
    · exact ends_ok z r hr
  · simp [sumT, markTo, signsT, endsT, bareMarkTo, timesN, cnt2, cnt1, num_n h0]
    omega
theorem tell_twos (z : Sz w n m N) (o : Two) : tellOk w n (twosT o) := by
  have hn := z.hn
  have h0 : 0 ≤ n := by omega
  have hno : unroll w n noMarks = unroll w n (tailT .roll) := rfl
  refine ok_flat (by show 11 ≤ 100000; decide) (twos_parts o) ?_ ?_ ?_
  · have he := ends_len z
    rw [unroll_twos h0, List.length_append, List.length_append, hno, tail_len, List.length_map, List.length_range]
    omega
  · intro r hr
    rw [unroll_twos h0, hno] at hr
    simp only [List.mem_append] at hr
    rcases hr with (hr | hr) | hr
    · exact op_ok z o r hr
    · rw [tail_rows] at hr
      exact rows_ok hn _ (tail_ok _) r hr
    · exact ends_ok z r hr
  · simp [twosT, noMarks, markTo, endsT, bareMarkTo, timesN, cnt2, cnt1, num_n h0]
    omega
theorem tell_shift (z : Sz w n m N) (k : Sh) (hs : 0 ≤ s ∧ s ≤ 100) : tellOk w n (shiftT k s) := by
  have hn := z.hn
  have h0 : 0 ≤ n := by omega
  have hsn : s.toNat * (1 + n.toNat) ≤ 100 * 5 := Nat.mul_le_mul (by omega) (by omega)
  refine ok_flat (by cases k <;> exact Nat.le_of_ble_eq_true rfl) (shift_parts k hs) ?_ ?_ ?_
  · have he := ends_len z
    rw [unroll_shift h0, List.length_append, List.length_append, List.length_append, List.length_append, tail_len, rounds_len, List.length_map, List.length_range]
    simp only [List.length_cons, List.length_nil]
    omega
  · intro r hr
    rw [unroll_shift h0] at hr
    simp only [List.mem_append, List.mem_singleton] at hr
    rcases hr with (((hr | rfl) | hr) | hr) | hr
    · simp only [List.mem_map, List.mem_range] at hr
      obtain ⟨j, hj, rfl⟩ := hr
      simp only [mvR, Row.ok, place]
      omega
    · show (0 : Int) ≤ 0 ∧ (0 : Int) ≤ 1
      decide
    · exact rounds_ok z k _ r hr
    · rw [tail_rows] at hr
      exact rows_ok hn _ (tail_ok _) r hr
    · exact ends_ok z r hr
  · cases k <;> simp [shiftT, copiedT, noMarks, markTo, endsT, bareMarkTo, timesN, aheadT, onePlace, cnt2, cnt1, num_n h0, num_s] <;> omega
theorem fits_of (z : Sz w n m N) : fits w n := ⟨⟨by have := z.hw; omega, by have := z.hw; omega⟩, by have := z.hn; omega, by have := z.hn; omega⟩
theorem size_le (z : Sz w n m N) : 4 ≤ w * n ∧ w * n ≤ 64 := by
  have hw := z.hw
  have hn := z.hn
  have h1 : w * 1 ≤ w * n := Int.mul_le_mul_of_nonneg_left hn.1 (by omega)
  have h2 : w * n ≤ w * 4 := Int.mul_le_mul_of_nonneg_left hn.2 (by omega)
  omega
theorem run_shift (z : Sz w n m N) (k : Sh) (hs : 0 ≤ s ∧ s ≤ 100) (hx : 0 ≤ x ∧ x < pw (w * n)) : runOk (.shift k s) w n x 0 := ⟨⟨hs, fun _ => rfl⟩, fits_of z, hx, ⟨by decide, pw_pos _⟩, tell_shift z k hs⟩
theorem run_sum (z : Sz w n m N) (hx : 0 ≤ x ∧ x < pw (w * n)) (hy : 0 ≤ y ∧ y < pw (w * n)) : runOk .sum w n x y := ⟨⟨trivial, fun h => h.elim⟩, fits_of z, hx, hy, tell_sum z⟩
theorem run_both (z : Sz w n m N) (hx : 0 ≤ x ∧ x < pw (w * n)) (hy : 0 ≤ y ∧ y < pw (w * n)) : runOk .both w n x y := ⟨⟨trivial, fun h => h.elim⟩, fits_of z, hx, hy, tell_twos z .both⟩
theorem run_any (z : Sz w n m N) (hx : 0 ≤ x ∧ x < pw (w * n)) (hy : 0 ≤ y ∧ y < pw (w * n)) : runOk .any w n x y := ⟨⟨trivial, fun h => h.elim⟩, fits_of z, hx, hy, tell_twos z .any⟩
theorem two_nat (k : Nat) : two k = ((2 ^ k : Nat) : Int) := by
  unfold two
  rw [Int.natCast_pow]
  rfl
end
theorem plain_all : PlainAll := by
  intro w n x s hw hn hx hs
  have z : Sz w n n.toNat (w * n).toNat := ⟨hw, hn, rfl, rfl⟩
  have hN := size_le z
  have hx2 : 0 ≤ x ∧ x < two (w * n).toNat := hx
  obtain ⟨t, ht⟩ : ∃ t : Nat, s = (t : Int) := ⟨s.toNat, by omega⟩
  obtain ⟨N, hNN⟩ : ∃ N : Nat, (w * n).toNat = N := ⟨_, rfl⟩
  have hwn : w * n = (N : Int) := by omega
  have htN : 1 ≤ t ∧ t < N := by omega
  have est : s.toNat = t := by omega
  have ens : (w * n - s).toNat = N - t := by omega
  have eNt : N - (N - t) = t := by omega
  rw [hNN] at z hx2
  have eKS : two N = two (N - t) * two t := by
    rw [← two_add]
    congr 1
    omega
  have hK := two_pos (N - t)
  have hS := two_pos t
  have elow : lowOf w n x s = x / two t := by
    show told (.shift .right s) w n x 0 = _
    rw [told_right z hx2, est]
    rfl
  have ehigh : highOf w n x s = two (N - t) * (x % two t) := by
    show told (.shift .left (w * n - s)) w n x 0 = _
    rw [told_left z hx2 (by omega), ens]
    show two (N - t) * (x % two (N - (N - t))) = _
    rw [eNt]
  have eroll : rollOf w n x s = two (N - t) * (x % two t) + x / two t := by
    show told (.shift .roll (w * n - s)) w n x 0 = _
    rw [told_roll z hx2 (by omega), ens]
    show two (N - t) * (x % two (N - (N - t))) + x / two (N - (N - t)) = _
    rw [eNt]
  have etop : pw (w * n) = two N := by
    rw [hwn]
    rfl
  have etop2 : pw (w * n - s) = two (N - t) := by
    unfold pw two
    rw [ens]
  -- bounds
  have l0 : 0 ≤ x / two t := Int.ediv_nonneg hx.1 (by omega)
  have l1 : x / two t < two (N - t) := Int.ediv_lt_of_lt_mul hS (by rw [← eKS]; exact hx2.2)
  have q0 := Int.emod_nonneg x (show two t ≠ 0 by omega)
  have q1 := Int.emod_lt_of_pos x hS
  have h0 : 0 ≤ two (N - t) * (x % two t) := Int.mul_nonneg (by omega) q0
  have h1 : two (N - t) * (x % two t) + two (N - t) ≤ two N := by
    have : two (N - t) * (x % two t + 1) ≤ two (N - t) * two t := Int.mul_le_mul_of_nonneg_left (by omega) (by omega)
    rw [Int.mul_add, Int.mul_one, ← eKS] at this
    exact this
  have hlow : 0 ≤ lowOf w n x s ∧ lowOf w n x s < two N := by
    rw [elow]
    omega
  have hhigh : 0 ≤ highOf w n x s ∧ highOf w n x s < two N := by
    rw [ehigh]
    omega
  have hand : (lowOf w n x s).toNat &&& (highOf w n x s).toNat = 0 := by
    rw [elow, ehigh]
    have e1 : (two (N - t) * (x % two t)).toNat = (x % two t).toNat * 2 ^ (N - t) := by
      have e2 : two (N - t) * (x % two t) = (((x % two t).toNat * 2 ^ (N - t) : Nat) : Int) := by
        rw [Int.natCast_mul, ← two_nat, Int.mul_comm]
        congr 1
        omega
      rw [e2, Int.toNat_natCast]
    rw [e1]
    refine low_high ?_
    have h3 : x / two t < ((2 ^ (N - t) : Nat) : Int) := by
      rw [← two_nat]
      exact l1
    exact (Int.toNat_lt l0).mpr h3
  have hsum : lowOf w n x s + highOf w n x s = rollOf w n x s := by
    rw [elow, ehigh, eroll, Int.add_comm]
  obtain ⟨d1, d2, d3, d4⟩ := double_same z x
  refine ⟨run_sum z hx hx, run_shift z .left ⟨by decide, by decide⟩ hx, d1, d2, d3, d4, run_shift z .right ⟨by omega, by omega⟩ hx, run_shift z .left ⟨by omega, by omega⟩ hx, run_both z (by rw [etop]; exact hlow) (by rw [etop]; exact hhigh), told_both z hlow.1 hhigh.1 hand,
    run_shift z .roll ⟨by omega, by omega⟩ hx, run_any z (by rw [etop]; exact hlow) (by rw [etop]; exact hhigh), (told_any z hlow hhigh hand).trans hsum, run_sum z (by rw [etop]; exact hlow) (by rw [etop]; exact hhigh), ?_, run_shift z .down ⟨by omega, by omega⟩ hx, ?_⟩
  · obtain ⟨g, hg, v1, v2, v3⟩ := sum_val z hlow hhigh
    rw [told_sum z, ← hsum]
    have hlt : lowOf w n x s + highOf w n x s < two N := by
      rw [elow, ehigh]
      omega
    rcases hg with rfl | rfl
    · rw [Int.mul_zero, Int.add_zero] at v1
      exact v1
    · rw [Int.mul_one] at v1
      omega
  · rw [told_down z (by omega) hx2, est, etop, etop2, elow]
    unfold downF
    by_cases hc : two N ≤ 2 * x
    · rw [if_pos hc, if_pos hc]
      have e : (x - two N) / two t = x / two t - two (N - t) := by
        have e1 : x - two N = x + two t * (-two (N - t)) := by
          rw [Int.mul_neg, eKS, Int.mul_comm (two t)]
          omega
        rw [e1, Int.add_mul_ediv_left _ _ (by omega)]
        omega
      rw [e]
      omega
    · rw [if_neg hc, if_neg hc, Int.add_zero]
end Ww

set_option Elab.async false
set_option linter.all false
set_option maxRecDepth 100000
set_option maxHeartbeats 0
/-! WFin: the head over the law's walk. -/
namespace Ww
open PySem PySem.W PySem.Calls PyProof.Rows L2 HandSHeadRun
theorem holds_of (PA : PlainAll) : PySem.Challenge.rw_widewords_k28_whole_shifts_and_sums.Holds := by
  refine head_of ?_
  refine L2.walk_ofE (l := PySem.Challenge.rw_widewords_k28_whole_shifts_and_sums) (n := 63) (k := 15) (x := "_law_script") (CX := C8.CX0) rfl (by decide) (by kernel_rfl) ⟨rfl, by decide, by decide⟩ ?F (fun _ _ _ _ z => z)
  intro w mg fa h Y G hmg0
  obtain ⟨K, KX, c, ex⟩ := Y
  have T : Tx w K mg := Tx.of KX G c ex
  have hmg : mg ("law" : PySem.Str) = some (.ref fa) := by
    have e : (topDef R.prog 146).name = ("law" : PySem.Str) := by kernel_rfl
    rw [← e]
    exact hmg0
  obtain ⟨fd, F, hF⟩ := law_ok PA T
  have e := hmg.symm.trans (T.glo 56)
  cases e
  have b := FunD.bindsA (ps := ["_law_script"]) F fun _ _ _ _ _ _ us hl => match us, hl with | [_], _ => rfl
  exact ⟨K, fd, LawSp K, KX, fun s v => b s [v] rfl, fun H a ns hl _ hS => ⟨a, ns, rfl, hS, Nat.le_trans hl (by decide), fun _ => rfl⟩, fun base _ _ => hF _ base⟩
end Ww

theorem PySem.Challenge.cw_widewords_k28_whole_shifts_and_sums_holds : PySem.Challenge.rw_widewords_k28_whole_shifts_and_sums.Holds := by
  exact Ww.holds_of Ww.plain_all
