import PyProof.Rows.All
import Wide.All
import OpenK.AllK
import Wide.FinOn
import HandS.ForMost
import HandS.Evl
import HandS.Codes
import HandS.Defaults
import HandS.WordsExc
import KE.KStateDown
import Lean
import HandS.More
import HandS.HeadHook1
import HandS.HeadHook2
import HandS.HeadHook3
import HandS.HeadHook4
import PySem.Challenge.RW_halfnoted_k29_loops_in_constant_space
import HandS.Head1
import HandS.Head2
import HandS.HeadEnd
import HandS.Walk
import HandS.Style
import HandS.Exc
import PyProof.ReprRoads
set_option Elab.async false

/- HnD -/
section
set_option Elab.async false
set_option linter.all false
set_option maxRecDepth 100000
set_option maxHeartbeats 4000000
/-! Halfnoted: data as they lie in the heap, and a calculus of readings over them. -/
namespace Hn
open PySem PySem.Spec PyProof.Rows L2 Evl
inductive D | s (x : Str) | i (n : Int) | b (k : Bool) | n | r (a : Addr) | t (l : List D)
section
variable (K : PySem.W.Frag)
mutual
def Rep (H : Hp) : D → V → Prop
  | .s x, v => v = .str x
  | .i n, v => v = .int n
  | .b k, v => v = .bl k
  | .n, v => v = .non
  | .r a, v => v = .ref a
  | .t l, v => ∃ a xs, v = .ref a ∧ SqT K H a xs ∧ Reps H l xs
def Reps (H : Hp) : List D → List V → Prop
  | [], xs => xs = []
  | d :: l, xs => ∃ x r, xs = x :: r ∧ Rep H d x ∧ Reps H l r
end
/-- tuples stay -/
def Tm (H H' : Hp) : Prop := ∀ a xs, SqT K H a xs → SqT K H' a xs
end
section
variable {K : PySem.W.Frag} {H H' H1 H2 : Hp}
theorem Tm.refl : Tm K H H := fun _ _ h => h
theorem Tm.trans (a : Tm K H H1) (b : Tm K H1 H2) : Tm K H H2 := fun x o h => b x o (a x o h)
theorem Tm.ex (e : Ex H H1) : Tm K H H1 := fun _ _ h => ex_t e h
theorem tm_upd {a : Addr} {o : HO} (h : ∀ u, H a = some u → (∀ xs, u ≠ .tup xs) ∧ ∀ ob xs, u ≠ .frz ob (.tup xs)) : Tm K H (upd H a o) := by
  intro b xs q
  rcases q with (q | ⟨ob, q⟩) | q
  · by_cases e : b = a
    · subst e
      exact absurd rfl ((h _ q).1 xs)
    · exact .inl (.inl (by rw [upd_ne e]; exact q))
  · by_cases e : b = a
    · subst e
      exact absurd rfl ((h _ q).2 ob xs)
    · exact .inl (.inr ⟨ob, by rw [upd_ne e]; exact q⟩)
  · exact .inr q
theorem tm_ins {a C dx : Addr} {fs : List (Str × V)} {o : HO} (h : H a = some (.ins C dx fs)) : Tm K H (upd H a o) := tm_upd fun u q => by
  rw [h] at q; cases q
  exact ⟨fun _ z => (by cases z), fun _ _ z => (by cases z)⟩
theorem tm_lst {a : Addr} {xs : List V} {o : HO} (h : H a = some (.lst xs)) : Tm K H (upd H a o) := tm_upd fun u q => by
  rw [h] at q; cases q
  exact ⟨fun _ z => (by cases z), fun _ _ z => (by cases z)⟩
theorem tm_new {a : Addr} {o : HO} (h : H a = none) : Tm K H (upd H a o) := tm_upd fun u q => by rw [h] at q; cases q
mutual
theorem Rep.mono (e : Tm K H H') : ∀ {d : D} {v : V}, Rep K H d v → Rep K H' d v
  | .s _, _, h => h
  | .i _, _, h => h
  | .b _, _, h => h
  | .n, _, h => h
  | .r _, _, h => h
  | .t l, _, ⟨a, xs, h1, h2, h3⟩ => ⟨a, xs, h1, e _ _ h2, Reps.mono e h3⟩
theorem Reps.mono (e : Tm K H H') : ∀ {l : List D} {xs : List V}, Reps K H l xs → Reps K H' l xs
  | [], _, h => h
  | d :: l, _, ⟨x, r, h1, h2, h3⟩ => ⟨x, r, h1, Rep.mono e h2, Reps.mono e h3⟩
end
theorem Rep.ex (e : Ex H H') {d : D} {v : V} (h : Rep K H d v) : Rep K H' d v := h.mono (Tm.ex e)
theorem Reps.nil : Reps K H [] [] := rfl
theorem Reps.cons {d : D} {l : List D} {x : V} {xs : List V} (h : Rep K H d x) (r : Reps K H l xs) : Reps K H (d :: l) (x :: xs) := ⟨x, xs, rfl, h, r⟩
theorem Reps.len : ∀ {l : List D} {xs : List V}, Reps K H l xs → xs.length = l.length
  | [], _, h => by
    have e : _ = [] := h
    rw [e] <;> rfl
  | d :: l, _, ⟨x, r, h1, _, h3⟩ => by rw [h1, List.length_cons, List.length_cons, Reps.len h3]
theorem Reps.get : ∀ {l : List D} {xs : List V} {j : Nat} {d : D}, Reps K H l xs → l[j]? = some d → ∃ x, xs[j]? = some x ∧ Rep K H d x
  | [], _, _, _, _, e => by simp at e
  | c :: l, _, 0, d, ⟨x, r, h1, h2, _⟩, e => by
    simp at e; subst e
    exact ⟨x, by rw [h1] <;> rfl, h2⟩
  | c :: l, _, j + 1, d, ⟨x, r, h1, _, h3⟩, e => by
    obtain ⟨y, q1, q2⟩ := Reps.get (j := j) (d := d) h3 (by simpa using e)
    exact ⟨y, by rw [h1]; simpa using q1, q2⟩
theorem Reps.app : ∀ {l m : List D} {xs ys : List V}, Reps K H l xs → Reps K H m ys → Reps K H (l ++ m) (xs ++ ys)
  | [], _, _, _, h, q => by
    have e : _ = [] := h
    rw [e]; exact q
  | d :: l, _, _, _, ⟨x, r, h1, h2, h3⟩, q => by rw [h1]; exact ⟨x, _, rfl, h2, Reps.app h3 q⟩
theorem Reps.drop : ∀ (n : Nat) {l : List D} {xs : List V}, Reps K H l xs → Reps K H (l.drop n) (xs.drop n)
  | 0, _, _, h => h
  | n + 1, [], _, h => by
    have e : _ = [] := h
    rw [e] <;> rfl
  | n + 1, d :: l, _, ⟨x, r, h1, _, h3⟩ => by rw [h1]; exact Reps.drop n h3
theorem rep_tup {p : Addr} {xs : List V} {l : List D} (h : H p = some (.tup xs)) (r : Reps K H l xs) : Rep K H (.t l) (.ref p) := ⟨p, xs, rfl, SqT.of h, r⟩
end

/-! ### data for == -/
mutual
def D.py : D → PyData
  | .s x => .str x | .i z => .int z | .b k => .bool k | .n => .none | .r _ => .none | .t l => .tuple (D.pys l)
def D.pys : List D → List PyData
  | [] => []
  | d :: l => d.py :: D.pys l
end
mutual
/-- no references, texts well formed, not too deep: fuel -/
def D.flat : D → Bool
  | .s x => PyData.strOk x | .i _ => true | .b _ => true | .n => true | .r _ => false | .t l => D.flats l
def D.flats : List D → Bool
  | [] => true
  | d :: l => d.flat && D.flats l
end
section
variable {K : PySem.W.Frag} {H : Hp}
mutual
theorem dp_of : ∀ {d : D} {v : V}, D.flat d = true → Rep K H d v → Dp K H v d.py
  | .s x, _, _, h => by cases h; exact .str x
  | .i n, _, _, h => by cases h; exact .int n
  | .b k, _, _, h => by cases h; exact .bl k
  | .n, _, _, h => by cases h; exact .non
  | .r _, _, f, _ => by cases f
  | .t l, _, f, ⟨a, xs, h1, h2, h3⟩ => by rw [h1]; exact .tup h2 (dps_of (l := l) f h3)
theorem dps_of : ∀ {l : List D} {xs : List V}, D.flats l = true → Reps K H l xs → DpAll K H xs (D.pys l)
  | [], _, _, h => by cases h; exact .nil
  | d :: l, _, f, ⟨x, r, h1, h2, h3⟩ => by
    have f' : (d.flat && D.flats l) = true := f
    obtain ⟨f1, f2⟩ := Bool.and_eq_true_iff.mp f'
    rw [h1]; exact .cons (dp_of f1 h2) (dps_of f2 h3)
end
mutual
theorem canLay_of : ∀ {d : D}, D.flat d = true → d.py.canLay0 = true
  | .s x, h => h
  | .i _, _ => rfl
  | .b _, _ => rfl
  | .n, _ => rfl
  | .r _, f => by cases f
  | .t l, f => canLays_of (l := l) f
theorem canLays_of : ∀ {l : List D}, D.flats l = true → PyData.canLayAll0 (D.pys l) = true
  | [], _ => rfl
  | d :: l, f => by
    have f' : (d.flat && D.flats l) = true := f
    obtain ⟨f1, f2⟩ := Bool.and_eq_true_iff.mp f'
    show (d.py.canLay0 && PyData.canLayAll0 (D.pys l)) = true
    rw [canLay_of f1, canLays_of f2] <;> rfl
end
end

/-! ### a calculus of readings: K alone, no heap -/
section
variable {K : PySem.W.Frag}
/-- what the slots hold -/
abbrev Lo := List (Option D)
def LoOk (K : PySem.W.Frag) (H : Hp) : L2.St → Lo → Prop
  | [], [] => True
  | none :: σ, none :: ds => LoOk K H σ ds
  | some v :: σ, some d :: ds => Rep K H d v ∧ LoOk K H σ ds
  | some _ :: σ, none :: ds => LoOk K H σ ds
  | _, _ => False
theorem LoOk.mono {H H' : Hp} (e : Tm K H H') : ∀ {σ : L2.St} {ds : Lo}, LoOk K H σ ds → LoOk K H' σ ds
  | [], [], h => h
  | none :: σ, none :: ds, h => LoOk.mono (σ := σ) (ds := ds) e h
  | some v :: σ, some d :: ds, h => ⟨h.1.mono e, LoOk.mono e h.2⟩
  | some v :: σ, none :: ds, h => LoOk.mono (σ := σ) (ds := ds) e h
  | [], none :: _, h => h.elim
  | [], some _ :: _, h => h.elim
  | none :: _, [], h => h.elim
  | none :: _, some _ :: _, h => h.elim
  | some _ :: _, [], h => h.elim
theorem LoOk.get {H : Hp} : ∀ {σ : L2.St} {ds : Lo} {i : Nat} {d : D}, LoOk K H σ ds → ds[i]? = some (some d) → ∃ v, σ[i]? = some (some v) ∧ Rep K H d v
  | [], [], _, _, _, e => by simp at e
  | none :: σ, none :: ds, i, d, h, e => by
    cases i with
    | zero => simp at e
    | succ i =>
      obtain ⟨v, a, b⟩ := LoOk.get (σ := σ) (ds := ds) (i := i) (d := d) h (by simpa using e)
      exact ⟨v, by simpa using a, b⟩
  | some v :: σ, some d' :: ds, i, d, h, e => by
    cases i with
    | zero => simp at e; subst e; exact ⟨v, rfl, h.1⟩
    | succ i =>
      obtain ⟨v, a, b⟩ := LoOk.get (σ := σ) (ds := ds) (i := i) (d := d) h.2 (by simpa using e)
      exact ⟨v, by simpa using a, b⟩
  | some v :: σ, none :: ds, i, d, h, e => by
    cases i with
    | zero => simp at e
    | succ i =>
      obtain ⟨v, a, b⟩ := LoOk.get (σ := σ) (ds := ds) (i := i) (d := d) h (by simpa using e)
      exact ⟨v, by simpa using a, b⟩
  | [], none :: _, _, _, h, _ => h.elim
  | [], some _ :: _, _, _, h, _ => h.elim
  | none :: _, [], _, _, h, _ => h.elim
  | none :: _, some _ :: _, _, _, h, _ => h.elim
  | some _ :: _, [], _, _, h, _ => h.elim
theorem LoOk.set {H : Hp} {v : V} {d : D} (r : Rep K H d v) : ∀ {σ : L2.St} {ds : Lo} (i : Nat), LoOk K H σ ds → LoOk K H (σ.set i (some v)) (ds.set i (some d))
  | [], [], _, h => h
  | none :: σ, none :: ds, 0, h => ⟨r, h⟩
  | none :: σ, none :: ds, i + 1, h => LoOk.set (σ := σ) (ds := ds) r i h
  | some _ :: σ, some _ :: ds, 0, h => ⟨r, h.2⟩
  | some _ :: σ, some _ :: ds, i + 1, h => ⟨h.1, LoOk.set (σ := σ) (ds := ds) r i h.2⟩
  | some _ :: σ, none :: ds, 0, h => ⟨r, h⟩
  | some _ :: σ, none :: ds, i + 1, h => LoOk.set (σ := σ) (ds := ds) r i h
  | [], none :: _, _, h => h.elim
  | [], some _ :: _, _, h => h.elim
  | none :: _, [], _, h => h.elim
  | none :: _, some _ :: _, _, h => h.elim
  | some _ :: _, [], _, h => h.elim
theorem lo_start {H : Hp} : ∀ {l : List D} {vs : List V} (m : Nat), Reps K H l vs → LoOk K H (vs.map some ++ List.replicate m none) (l.map some ++ List.replicate m none)
  | [], _, m, h => by
    have e : _ = [] := h
    rw [e]
    show LoOk K H (List.replicate m none) (List.replicate m none)
    induction m with
    | zero => trivial
    | succ m ih => exact ih
  | d :: l, _, m, ⟨x, r, h1, h2, h3⟩ => by rw [h1]; exact ⟨h2, lo_start m h3⟩
/-- te gives d, the heap only grows -/
def ED (K : PySem.W.Frag) (te : TE) (ds : Lo) (d : D) : Prop := ∀ σ H, LoOk K H σ ds → ∀ Q : VK, (∀ v H', Ex H H' → Rep K H' d v → Q v H') → te σ H Q
def EDs (K : PySem.W.Frag) (ta : TA) (ds : Lo) (l : List D) : Prop := ∀ σ H, LoOk K H σ ds → ∀ Q : List V → Hp → Prop, (∀ vs H', Ex H H' → Reps K H' l vs → Q vs H') → ta σ H Q
def EB (K : PySem.W.Frag) (tt : TT) (ds : Lo) (b : Bool) : Prop := ∀ σ H, LoOk K H σ ds → ∀ Q : Bool → Hp → Prop, (∀ H', Ex H H' → Q b H') → tt σ H Q
/-- t returns d -/
def RD (K : PySem.W.Frag) (t : TS) (ds : Lo) (d : D) : Prop := ∀ (D : Ends) σ H, LoOk K H σ ds → (∀ v H', Ex H H' → Rep K H' d v → D.rt v H') → t D σ H
/-- t goes on, the slots are ds' -/
def ND (K : PySem.W.Frag) (t : TS) (ds ds' : Lo) : Prop := ∀ (D : Ends) σ H, LoOk K H σ ds → (∀ σ' H', Ex H H' → LoOk K H' σ' ds' → D.nx σ' H') → t D σ H
variable {te ta tb : TE} {tt tu : TT} {t u w : TS} {as ar : TA} {ds ds' : Lo} {d e : D} {l : List D} {x y : Str} {b c : Bool} {i j : Nat}
theorem ed_var (h : ds[i]? = some (some d)) : ED K (tVar i) ds d := fun σ H L Q q => by
  obtain ⟨v, h1, h2⟩ := L.get h
  exact ⟨v, h1, q v H (Ex.refl H) h2⟩
theorem ed_s : ED K (tC (.str x)) ds (.s x) := fun _ H _ _ q => q _ H (Ex.refl H) rfl
theorem ed_i {n : Int} : ED K (tC (.int n)) ds (.i n) := fun _ H _ _ q => q _ H (Ex.refl H) rfl
theorem ed_b {n : Bool} : ED K (tC (.bl n)) ds (.b n) := fun _ H _ _ q => q _ H (Ex.refl H) rfl
theorem ed_n : ED K (tC .non) ds .n := fun _ H _ _ q => q _ H (Ex.refl H) rfl
theorem ed_c {v : V} (h : ∀ H, Rep K H d v) : ED K (tC v) ds d := fun _ H _ _ q => q _ H (Ex.refl H) (h H)
theorem ed_ix {n : Int} (h : ED K te ds (.t l)) (hi : l[j]? = some d) (hn : n = (j : Int) := by rfl) : ED K (tOp (rIxT K) te (tC (.int n))) ds d := fun σ H L Q q =>
  h σ H L _ fun v H' e' r => by
    obtain ⟨a, xs, rfl, hs, hr⟩ := r
    obtain ⟨y, h1, h2⟩ := hr.get hi
    subst hn
    exact ⟨a, xs, j, y, rfl, rfl, hs, atI_nat h1, q y H' e' h2⟩
/-- an index that is an expression -/
theorem ed_ixE {n : Int} (h : ED K te ds (.t l)) (h2 : ED K ta ds (.i n)) (hi : l[j]? = some d) (hn : n = (j : Int)) : ED K (tOp (rIxT K) te ta) ds d := fun σ H L Q q =>
  h σ H L _ fun v H' e' r => h2 σ H' (L.mono (Tm.ex e')) _ fun v2 H2 e2 r2 => by
    obtain ⟨a, xs, rfl, hs, hr⟩ := r
    obtain ⟨y, h1, h3⟩ := hr.get hi
    have r2' : v2 = .int n := r2
    subst r2'
    subst hn
    exact ⟨a, xs, j, y, rfl, rfl, ex_t e2 hs, atI_nat h1, q y H2 (e'.trans e2) (h3.ex e2)⟩
theorem es_nil : EDs K tNil ds [] := fun _ H _ _ q => q [] H (Ex.refl H) rfl
theorem es_cons (h : ED K te ds d) (hr : EDs K as ds l) : EDs K (tCons te as) ds (d :: l) := fun σ H L Q q =>
  h σ H L _ fun v H' e' r => hr σ H' (L.mono (Tm.ex e')) _ fun vs H2 e2 r2 => q (v :: vs) H2 (e'.trans e2) (.cons (r.ex e2) r2)
theorem ed_tup (h : EDs K as ds l) (hl : l.length ≤ 1000 := by decide) : ED K (tTup as) ds (.t l) := fun σ H L Q q =>
  h σ H L _ fun vs H' e' r => ⟨by rw [r.len]; exact Nat.le_of_lt (small1000 hl), fun p hp => q _ _ (e'.trans (Ex.new hp)) (rep_tup upd_same (r.mono (tm_new hp)))⟩
/-- a promise over data -/
def spD (K : PySem.W.Frag) (R : List D → D → Prop) : Sp := fun vs H Q _ => ∃ l d, Reps K H l vs ∧ R l d ∧ ∀ v H', Ex H H' → Rep K H' d v → Q v H'
theorem ed_call {R : List D → D → Prop} {E : XK} (h : EDs K as ds l) (hr : R l d) : ED K (tCall (spD K R) [] E as) ds d := fun σ H L Q q =>
  h σ H L _ fun vs H' e' r => ⟨l, d, by rw [List.append_nil]; exact r, hr, fun v H2 e2 r2 => q v H2 (e'.trans e2) r2⟩
theorem ed_add {m n : Int} (h1 : ED K ta ds (.i m)) (h2 : ED K tb ds (.i n)) : ED K (tOp (rI0 fun i j => .int (i + j)) ta tb) ds (.i (m + n)) := fun σ H L Q q =>
  h1 σ H L _ fun v H' e' r => h2 σ H' (L.mono (Tm.ex e')) _ fun v2 H2 e2 r2 => by
    cases r; cases r2
    exact ⟨m, n, rfl, rfl, q _ H2 (e'.trans e2) rfl⟩
theorem ed_sub {m n : Int} (h1 : ED K ta ds (.i m)) (h2 : ED K tb ds (.i n)) : ED K (tOp (rI0 fun i j => .int (i - j)) ta tb) ds (.i (m - n)) := fun σ H L Q q =>
  h1 σ H L _ fun v H' e' r => h2 σ H' (L.mono (Tm.ex e')) _ fun v2 H2 e2 r2 => by
    cases r; cases r2
    exact ⟨m, n, rfl, rfl, q _ H2 (e'.trans e2) rfl⟩
theorem eb_eqS (h1 : ED K ta ds (.s x)) (h2 : ED K tb ds (.s y)) (hb : decide (x = y) = b) : EB K (tTest (tOp rEq ta tb)) ds b := fun σ H L Q q =>
  h1 σ H L _ fun v H' e' r => h2 σ H' (L.mono (Tm.ex e')) _ fun v2 H2 e2 r2 => by
    cases r; cases r2
    refine ⟨rfl, _, rfl, ?_⟩
    have e3 : decide (V.str x = V.str y) = b := by
      rw [← hb]
      by_cases z : x = y
      · subst z
        rw [decide_eq_true rfl, decide_eq_true rfl]
      · rw [decide_eq_false z, decide_eq_false fun k => z (V.str.inj k)]
    rw [e3]
    exact q H2 (e'.trans e2)
theorem eb_neS (h1 : ED K ta ds (.s x)) (h2 : ED K tb ds (.s y)) (hb : (!decide (x = y)) = b) : EB K (tTest (tOp rNe ta tb)) ds b := fun σ H L Q q =>
  h1 σ H L _ fun v H' e' r => h2 σ H' (L.mono (Tm.ex e')) _ fun v2 H2 e2 r2 => by
    cases r; cases r2
    refine ⟨rfl, _, rfl, ?_⟩
    have e3 : (!decide (V.str x = V.str y)) = b := by
      rw [← hb]
      by_cases z : x = y
      · subst z
        rw [decide_eq_true rfl, decide_eq_true rfl]
      · rw [decide_eq_false z, decide_eq_false fun k => z (V.str.inj k)]
    rw [e3]
    exact q H2 (e'.trans e2)
theorem eb_eqI {m n : Int} (h1 : ED K ta ds (.i m)) (h2 : ED K tb ds (.i n)) (hb : decide (m = n) = b) : EB K (tTest (tOp rEq ta tb)) ds b := fun σ H L Q q =>
  h1 σ H L _ fun v H' e' r => h2 σ H' (L.mono (Tm.ex e')) _ fun v2 H2 e2 r2 => by
    cases r; cases r2
    refine ⟨rfl, _, rfl, ?_⟩
    have e3 : decide (V.int m = V.int n) = b := by
      rw [← hb]
      by_cases z : m = n
      · subst z
        rw [decide_eq_true rfl, decide_eq_true rfl]
      · rw [decide_eq_false z, decide_eq_false fun k => z (V.int.inj k)]
    rw [e3]
    exact q H2 (e'.trans e2)
theorem eb_eqD (h1 : ED K ta ds d) (h2 : ED K tb ds e) (f1 : d.flat = true) (f2 : e.flat = true) (p1 : d.py.depth ≤ 64) (p2 : e.py.depth ≤ 64) (hb : PyData.eqv d.py e.py = b) : EB K (tTest (tOp (rEqD K) ta tb)) ds b := fun σ H L Q q =>
  h1 σ H L _ fun v H' e' r => h2 σ H' (L.mono (Tm.ex e')) _ fun v2 H2 e2 r2 => by
    refine ⟨d.py, e.py, dp_of f1 (r.ex e2), dp_of f2 r2, ?_, ?_, b, by rw [hb], q H2 (e'.trans e2)⟩
    · unfold SeqAt.shaped; rw [canLay_of f1, decide_eq_true p1] <;> rfl
    · unfold SeqAt.shaped; rw [canLay_of f2, decide_eq_true p2] <;> rfl
theorem eb_not (h : EB K tt ds b) (hc : (!b) = c) : EB K (tNot tt) ds c := fun σ H L Q q => h σ H L _ fun H' e' => by rw [hc]; exact q H' e'
theorem eb_and (h1 : EB K tt ds b) (h2 : b = true → EB K tu ds c) (hc : b = false → c = false) : EB K (tAnd tt tu) ds c := fun σ H L Q q => h1 σ H L _ fun H' e' => by
  cases b with
  | true => exact iteT (h2 rfl σ H' (L.mono (Tm.ex e')) Q fun H2 e2 => q H2 (e'.trans e2))
  | false =>
    refine iteF ?_
    rw [← hc rfl]
    exact q H' e'
theorem eb_or (h1 : EB K tt ds b) (h2 : b = false → EB K tu ds c) (hc : b = true → c = true) : EB K (tOr tt tu) ds c := fun σ H L Q q => h1 σ H L _ fun H' e' => by
  cases b with
  | true =>
    refine iteT ?_
    rw [← hc rfl]
    exact q H' e'
  | false => exact iteF (h2 rfl σ H' (L.mono (Tm.ex e')) Q fun H2 e2 => q H2 (e'.trans e2))
theorem eb_val (h : ED K te ds (.b b)) : EB K (tB te) ds b := fun σ H L Q q => h σ H L _ fun v H' e' r => by cases r; exact ⟨b, rfl, q H' e'⟩
theorem eb_isN (h : ED K te ds .n) : EB K (tTest (tOp (fun x y H Q => y = .non ∧ Q (.bl (decide (x = .non))) H) te (tC .non))) ds true := fun σ H L Q q => h σ H L _ fun v H' e' r => by
  cases r
  exact ⟨rfl, true, rfl, q H' e'⟩
theorem eb_isN0 (h : ED K te ds (.t l)) : EB K (tTest (tOp (fun x y H Q => y = .non ∧ Q (.bl (decide (x = .non))) H) te (tC .non))) ds false := fun σ H L Q q => h σ H L _ fun v H' e' r => by
  obtain ⟨a, xs, rfl, _⟩ := r
  exact ⟨rfl, false, rfl, q H' e'⟩
theorem rd_ret (h : ED K te ds d) : RD K (tRet te) ds d := fun D σ H L q => h σ H L _ q
theorem nd_next : ND K tNext ds ds := fun _ σ H L q => q σ H (Ex.refl H) L
theorem nd_asg (h : ED K te ds d) : ND K (tAsg te (gName i)) ds (ds.set i (some d)) := fun D σ H L q => h σ H L _ fun v H' e' r => q _ H' e' ((L.mono (Tm.ex e')).set r i)
theorem rd_sr (h : RD K t ds d) : RD K (tSeq t u) ds d := fun D σ H L q => h { D with nx := u D } σ H L q
theorem rd_sn (h : ND K t ds ds') (hu : RD K u ds' d) : RD K (tSeq t u) ds d := fun D σ H L q => h { D with nx := u D } σ H L fun σ' H' e' L' => hu D σ' H' L' fun v H2 e2 r => q v H2 (e'.trans e2) r
theorem nd_sn {ds2 : Lo} (h : ND K t ds ds') (hu : ND K u ds' ds2) : ND K (tSeq t u) ds ds2 := fun D σ H L q => h { D with nx := u D } σ H L fun σ' H' e' L' => hu D σ' H' L' fun v H2 e2 r => q v H2 (e'.trans e2) r
theorem rd_if (h : EB K tt ds b) (h1 : b = true → RD K t ds d) (h2 : b = false → RD K u ds d) : RD K (tIfS tt t u) ds d := fun D σ H L q => h σ H L _ fun H' e' => by
  cases b with
  | true => exact iteT (h1 rfl D σ H' (L.mono (Tm.ex e')) fun v H2 e2 r => q v H2 (e'.trans e2) r)
  | false => exact iteF (h2 rfl D σ H' (L.mono (Tm.ex e')) fun v H2 e2 r => q v H2 (e'.trans e2) r)
theorem rd_yes (h : EB K tt ds true) (h1 : RD K t ds d) : RD K (tIfS tt t u) ds d := rd_if h (fun _ => h1) fun z => nomatch z
theorem rd_no (h : EB K tt ds false) (h1 : RD K u ds d) : RD K (tIfS tt t u) ds d := rd_if h (fun z => nomatch z) fun _ => h1
theorem nd_if (h : EB K tt ds b) (h1 : b = true → ND K t ds ds') (h2 : b = false → ND K u ds ds') : ND K (tIfS tt t u) ds ds' := fun D σ H L q => h σ H L _ fun H' e' => by
  cases b with
  | true => exact iteT (h1 rfl D σ H' (L.mono (Tm.ex e')) fun v H2 e2 r => q v H2 (e'.trans e2) r)
  | false => exact iteF (h2 rfl D σ H' (L.mono (Tm.ex e')) fun v H2 e2 r => q v H2 (e'.trans e2) r)
theorem nd_yes (h : EB K tt ds true) (h1 : ND K t ds ds') : ND K (tIfS tt t u) ds ds' := nd_if h (fun _ => h1) fun z => nomatch z
theorem nd_no (h : EB K tt ds false) (h1 : ND K u ds ds') : ND K (tIfS tt t u) ds ds' := nd_if h (fun z => nomatch z) fun _ => h1
/-- an if without else whose test is false, then the rest -/
theorem rd_skip (h : EB K tt ds false) (hu : RD K u ds d) : RD K (tSeq (tIfS tt t tNext) u) ds d := rd_sn (nd_no h nd_next) hu
/-- .. true, and its branch returns -/
theorem rd_take (h : EB K tt ds true) (h1 : RD K t ds d) : RD K (tSeq (tIfS tt t w) u) ds d := rd_sr (rd_yes h h1)
end

/-! ### a def by its body, over data -/
section
variable {P : Program} {w : World} {K : PySem.W.Frag} {mg : Str → Option Value} {base : Heap}
/-- how the arguments of a def bind -/
abbrev BindsBy (x qual : Str) (params : Arguments) (body : List Stmt) (scope : Scope) (ps : List Str) : Prop :=
  ∀ (kV doc pm : Value) (an : Option Addr) (cdv ct : Value) (us : List Value), us.length = ps.length → bindArgs (PySem.W.fnOf x qual params body scope .none kV doc pm an cdv ct) ⟨us, []⟩ = pure (ps.zip us)
theorem ok_data {x qual : Str} {params : Arguments} {body : List Stmt} {scope : Scope} {f : Addr} {fd : FuncData} {N ps : List Str} {k : Nat} {R : List D → D → Prop} (F : FunD K x qual params body scope [] [] f fd) (S : FnScope N ps scope)
    (len : ∀ l d, R l d → l.length = ps.length)
    (hb : ∀ (cdv : Value) (A : Around) (outer : List Env) (s : Shared) (H : Hp) (E : XK) (l : List D) (d : D), Room k (A.deeper (envOfC qual scope s.heap.objs.size f cdv)) → R l d →
      ∃ t, PSs (cxOf C8.CX0 P w K mg base N qual scope f cdv A outer s H E).nox body t ∧ RD K t (l.map some ++ List.replicate (N.length - ps.length) none) d) : FnOk P w K mg base C8.CX0 (k + 1) f fd ps (spD K R) := by
  refine F.ok S (fun vs H Q E h => ?_) fun cdv A outer s H vs Q E hr h => ?_
  · obtain ⟨l, d, h1, h2, _⟩ := h
    rw [h1.len]; exact len l d h2
  · obtain ⟨l, d, h1, h2, h3⟩ := h
    obtain ⟨t, ht, hd⟩ := hb cdv A outer s H E l d hr h2
    refine ⟨t, ht.nox, hd _ _ _ ?_ h3⟩
    unfold L2.start
    rw [h1.len, len l d h2]
    exact lo_start _ h1
theorem cal_data {x : Str} {params : Arguments} {body : List Stmt} {scope : Scope} {f : Addr} {fd : FuncData} {ps : List Str} {k : Nat} {sp : Sp} (F : FunD K x x params body scope [] [] f fd) (hm : mg x = some (.ref f)) (b : BindsBy x x params body scope ps) (G : FnOk P w K mg base C8.CX0 k f fd ps sp) :
    C8.Cal P w K mg base k x sp [] := ⟨f, fd, ps, [], G, hm, F.kp, F.bindsN b, .nil⟩
end
end Hn
end

/- HnM -/
section
/-! Halfnoted, the plain part: types, checks, core expressions, values, the machine; no program in sight. -/
set_option linter.all false
namespace Hn
inductive Nm | n | h | b | o | s | z0 | z1 | z2
  deriving DecidableEq
inductive Ty | any | int | bool | unit | fn (a b : Ty) | pr (a b : Ty) | bx (a : Ty)
  deriving DecidableEq
/-- grounds -/
inductive Gd | int | bool | unit | fn | pr | bx
  deriving DecidableEq
/-- checks (no fails: they don't arise here) -/
inductive Ck | any | same (g : Gd) | fn (s t : Ck) | pr (s t : Ck) | bx (s t : Ck) | give (g : Ck) | take (g : Gd) (n s : Int) (i : Ck)
  deriving DecidableEq
/-! ### types -/
def gd : Ty → Gd
  | .any => .int | .int => .int | .bool => .bool | .unit => .unit | .fn _ _ => .fn | .pr _ _ => .pr | .bx _ => .bx
def gty : Gd → Ty
  | .int => .int | .bool => .bool | .unit => .unit | .fn => .fn .any .any | .pr => .pr .any .any | .bx => .bx .any
def cons : Ty → Ty → Bool
  | .any, _ => true
  | _, .any => true
  | .int, .int => true
  | .bool, .bool => true
  | .unit, .unit => true
  | .fn a b, .fn c d => cons a c && cons b d
  | .pr a b, .pr c d => cons a c && cons b d
  | .bx a, .bx c => cons a c
  | _, _ => false
def ht : Ty → Nat
  | .any => 0 | .int => 0 | .bool => 0 | .unit => 0 | .fn a b => max (ht a) (ht b) + 1 | .pr a b => max (ht a) (ht b) + 1 | .bx a => ht a + 1
/-- at most as exact -/
def le : Ty → Ty → Prop
  | .any, _ => True
  | .int, .int => True
  | .bool, .bool => True
  | .unit, .unit => True
  | .fn a b, .fn c d => le a c ∧ le b d
  | .pr a b, .pr c d => le a c ∧ le b d
  | .bx a, .bx c => le a c
  | _, _ => False
/-! ### checks -/
def compC (J : Ty → Ty → Int → Int → Option Ck) : Ty → Ty → Int → Int → Option Ck
  | .fn a b, .fn c d, n, s => (J c a n (1 - s)).bind fun x => (J b d n s).map fun y => .fn x y
  | .pr a b, .pr c d, n, s => (J a c n s).bind fun x => (J b d n s).map fun y => .pr x y
  | .bx a, .bx c, n, s => (J c a n (1 - s)).bind fun x => (J a c n s).map fun y => .bx x y
  | _, _, _, _ => none
def chkF : Nat → Ty → Ty → Int → Int → Option Ck
  | 0, _, _, _, _ => none
  | f + 1, A, B, n, s =>
    if A = .any ∧ B = .any then some .any
    else if B = .any then (chkF f A (gty (gd A)) n s).map .give
    else if A = .any then (chkF f (gty (gd B)) B n s).map (.take (gd B) n s)
    else match A, B with
      | .int, .int => some (.same .int)
      | .bool, .bool => some (.same .bool)
      | .unit, .unit => some (.same .unit)
      | A, B => compC (chkF f) A B n s
/-- the ground of a plain check -/
def pg : Ck → Option Gd
  | .same g => some g | .fn _ _ => some .fn | .pr _ _ => some .pr | .bx _ _ => some .bx | _ => none
def plainJ (J : Ck → Ck → Option Ck) : Ck → Ck → Option Ck
  | .same g, .same _ => some (.same g)
  | .pr s t, .pr s' t' => (J s s').bind fun x => (J t t').map fun y => .pr x y
  | .fn s t, .fn s' t' => (J s' s).bind fun x => (J t t').map fun y => .fn x y
  | .bx s t, .bx s' t' => (J s' s).bind fun x => (J t t').map fun y => .bx x y
  | _, _ => none
def giveJ (J : Ck → Ck → Option Ck) : Ck → Ck → Option Ck
  | g, .any => some (.give g)
  | g, .take k _ _ i => if pg g = some k then J g i else none
  | _, _ => none
def joinF : Nat → Ck → Ck → Option Ck
  | 0, _, _ => none
  | _ + 1, .any, t => some t
  | f + 1, .take g n s i, t => (joinF f i t).map (.take g n s)
  | f + 1, .give g, t => giveJ (joinF f) g t
  | f + 1, a, .give g => (plainJ (joinF f) a g).map .give
  | f + 1, a, t => plainJ (joinF f) a t
def size : Ck → Int
  | .any => 1 | .same _ => 1 | .fn s t => 1 + (size s + size t) | .pr s t => 1 + (size s + size t) | .bx s t => 1 + (size s + size t) | .give g => 1 + size g | .take _ _ _ i => 1 + size i
def dp : Ck → Nat
  | .any => 1 | .same _ => 1 | .fn s t => max (dp s) (dp t) + 1 | .pr s t => max (dp s) (dp t) + 1 | .bx s t => max (dp s) (dp t) + 1 | .give g => dp g + 1 | .take _ _ _ i => dp i + 1
/-! ### expressions -/
/-- source expressions -/
inductive Sx
  | num (i : Int) | flag (b : Bool) | unit | name (x : Nm) | fn (x : Nm) (T : Ty) (e : Sx) | rc (h x : Nm) (T U : Ty) (e : Sx)
  | call (e f : Sx) | lt (x : Nm) (e f : Sx) | ife (c e f : Sx) | pr (e f : Sx) | bx (e : Sx) | get (e : Sx) | put (e f : Sx) | op (l : Bool) (e f : Sx) | as (e : Sx) (T : Ty)
/-- core expressions -/
inductive Co
  | num (i : Int) | flag (b : Bool) | unit | name (x : Nm) | fn (x : Nm) (T : Ty) (e : Co) | rc (h x : Nm) (T U : Ty) (e : Co)
  | call (e f : Co) | lt (x : Nm) (e f : Co) | ife (c e f : Co) | pr (e f : Co) | bx (e : Co) | get (e : Co) | put (e f : Co) | op (l : Bool) (e f : Co) | cast (n : Int) (A B : Ty) (e : Co)
def dep : Sx → Nat
  | .num _ => 1 | .flag _ => 1 | .unit => 1 | .name _ => 1 | .fn _ _ e => dep e + 1 | .rc _ _ _ _ e => dep e + 1
  | .call e f => max (dep e) (dep f) + 1 | .lt _ e f => max (dep e) (dep f) + 1 | .ife c e f => max (dep c) (max (dep e) (dep f)) + 1 | .pr e f => max (dep e) (dep f) + 1
  | .bx e => dep e + 1 | .get e => dep e + 1 | .put e f => max (dep e) (dep f) + 1 | .op _ e f => max (dep e) (dep f) + 1 | .as e _ => dep e + 1
/-! ### elaboration -/
/-- the names' types, the innermost first -/
abbrev TEn := List (Nm × Ty)
def find : TEn → Nm → Option Ty
  | [], _ => none
  | (y, t) :: r, x => if y = x then some t else find r x
/-- a part: its number, core, type -/
structure Pt where
  num : Int
  core : Co
  known : Ty
/-- e fits T -/
def fit (p : Pt) (T : Ty) : Option Co := if (ht p.known ≤ 10 ∧ ht T ≤ 10) ∧ cons p.known T = true then some (if p.known = T then p.core else .cast p.num p.known T p.core) else none
def callP (a b : Pt) : Option (Co × Ty) := match a.known with
  | .fn A B => if ht (.fn A B) ≤ 10 then (fit b A).map fun x => (.call a.core x, B) else none
  | _ => none
def ifP (a b c : Pt) : Option (Co × Ty) := if b.known = c.known ∧ ht b.known ≤ 10 then (fit a .bool).bind fun x => (fit b b.known).bind fun y => (fit c b.known).map fun z => (.ife x y z, b.known) else none
def getP (a : Pt) : Option (Co × Ty) := match a.known with
  | .bx A => if ht (.bx A) ≤ 10 then some (.get a.core, A) else none
  | _ => none
def putP (a b : Pt) : Option (Co × Ty) := match a.known with
  | .bx A => if ht (.bx A) ≤ 10 then (fit b A).map fun x => (.put a.core x, .unit) else none
  | _ => none
def opP (l : Bool) (a b : Pt) : Option (Co × Ty) := (fit a .int).bind fun x => (fit b .int).map fun y => (.op l x y, if l then .bool else .int)
/-- part: the count ahead is the number; what comes back: the part, the count behind -/
def el : Sx → TEn → Int → Option (Pt × Int)
  | .num i, _, c => some (⟨c, .num i, .int⟩, c + 1)
  | .flag b, _, c => some (⟨c, .flag b, .bool⟩, c + 1)
  | .unit, _, c => some (⟨c, .unit, .unit⟩, c + 1)
  | .name x, en, c => (find en x).map fun t => (⟨c, .name x, t⟩, c + 1)
  | .fn x T e, en, c => (el e ((x, T) :: en) (c + 1)).map fun q => (⟨c, .fn x T q.1.core, .fn T q.1.known⟩, q.2)
  | .rc h x T U e, en, c => (el e ((x, T) :: (h, .fn T U) :: en) (c + 1)).bind fun q => (fit q.1 U).map fun y => (⟨c, .rc h x T U y, .fn T U⟩, q.2)
  | .lt x e f, en, c => (el e en (c + 1)).bind fun q => (el f ((x, q.1.known) :: en) q.2).map fun r => (⟨c, .lt x q.1.core r.1.core, r.1.known⟩, r.2)
  | .as e T, en, c => (el e en (c + 1)).bind fun q => (fit q.1 T).map fun y => (⟨c, y, T⟩, q.2)
  | .call e f, en, c => (el e en (c + 1)).bind fun q => (el f en q.2).bind fun r => (callP q.1 r.1).map fun z => (⟨c, z.1, z.2⟩, r.2)
  | .ife e f g, en, c => (el e en (c + 1)).bind fun q => (el f en q.2).bind fun r => (el g en r.2).bind fun t => (ifP q.1 r.1 t.1).map fun z => (⟨c, z.1, z.2⟩, t.2)
  | .pr e f, en, c => (el e en (c + 1)).bind fun q => (el f en q.2).map fun r => (⟨c, .pr q.1.core r.1.core, .pr q.1.known r.1.known⟩, r.2)
  | .bx e, en, c => (el e en (c + 1)).map fun q => (⟨c, .bx q.1.core, .bx q.1.known⟩, q.2)
  | .get e, en, c => (el e en (c + 1)).bind fun q => (getP q.1).map fun z => (⟨c, z.1, z.2⟩, q.2)
  | .put e f, en, c => (el e en (c + 1)).bind fun q => (el f en q.2).bind fun r => (putP q.1 r.1).map fun z => (⟨c, z.1, z.2⟩, r.2)
  | .op l e f, en, c => (el e en (c + 1)).bind fun q => (el f en q.2).bind fun r => (opP l q.1 r.1).map fun z => (⟨c, z.1, z.2⟩, r.2)
/-! ### values, the machine -/
mutual
inductive Va
  | int (i : Int) | bool (b : Bool) | unit | fn (own : Option Nm) (x : Nm) (e : Co) (env : En) | pr (a b : Va) | bx (a : Nat) | wr (v : Va) (c : Ck)
inductive En
  | nil | cons (x : Nm) (v : Va) (r : En)
end
def look : En → Nm → Option Va
  | .nil, _ => none
  | .cons y v r, x => if y = x then some v else look r x
/-- the ground of a value that is not wrapped -/
def vg0 : Va → Option Gd
  | .int _ => some .int | .bool _ => some .bool | .unit => some .unit | .fn _ _ _ _ => some .fn | .pr _ _ => some .pr | .bx _ => some .bx | .wr _ _ => none
def vg : Va → Option Gd
  | .wr v _ => vg0 v
  | v => vg0 v
/-- fuels -/
abbrev FJ : Nat := 24
abbrev FC : Nat := 12
def wrapV : Va → Ck → Option Va
  | .wr _ _, _ => none
  | v, d => some (.wr v d)
def doneP (c : Ck) (v : Va) : Option Va := match c with
  | .any => some v
  | .same _ => some v
  | .fn s t => wrapV v (.fn s t)
  | .pr s t => wrapV v (.pr s t)
  | .bx s t => wrapV v (.bx s t)
  | _ => none
def done : Ck → Va → Option Va
  | .take g _ _ i, v => if vg v = some g then done i v else none
  | .give g, v => doneP g v
  | c, v => doneP c v
inductive Hd | call | pr | put
inductive Fr
  | ck (c : Ck) | co (e : Co) (env : En) | sec (h : Hd) (v : Va) | opd (l : Bool) (v : Va)
structure MS where
  calls : Int
  stk : List Fr
  wt : Int
  pd : Int
  cl : Int
  m0 : Int
  m1 : Int
  m2 : Int
  sto : Nat → Option Va
def mx (old new : Int) : Int := if new > old then new else old
def meas (st : MS) : MS := { st with m0 := mx st.m0 st.wt, m1 := mx st.m1 st.pd, m2 := mx st.m2 st.cl }
def wait (st : MS) (f : Fr) : MS := meas { st with stk := f :: st.stk, wt := st.wt + 1 }
def pushP (st : MS) (c : Ck) : Option MS := if dp c ≤ FJ then some (meas { st with stk := .ck c :: st.stk, pd := st.pd + 1, cl := st.cl + size c }) else none
def remP (st : MS) : Option (Ck × MS) := match st.stk with
  | .ck c :: r => if dp c ≤ FJ then some (c, { st with stk := r, pd := st.pd - 1, cl := st.cl - size c }) else none
  | _ => none
def addP (st : MS) (c : Ck) : Option MS := if dp c ≤ FJ then (match st.stk with
  | .ck _ :: _ => (remP st).bind fun q => (joinF FJ c q.1).bind fun j => pushP q.2 j
  | _ => pushP st c) else none
inductive Nx
  | ev (e : Co) (env : En) | va (v : Va)
def begin : Co → En → MS → Option (Nx × MS)
  | .num i, _, st => some (.va (.int i), st)
  | .flag b, _, st => some (.va (.bool b), st)
  | .unit, _, st => some (.va .unit, st)
  | .name x, en, st => (look en x).map fun v => (.va v, st)
  | .fn x _ e, en, st => some (.va (.fn none x e en), st)
  | .rc h x _ _ e, en, st => some (.va (.fn (some h) x e en), st)
  | .cast n A B e, en, st => if ht A ≤ 50 ∧ ht B ≤ 50 then (chkF FC A B n 1).bind fun c => (addP st c).map fun st' => (.ev e en, st') else none
  | .lt x e f, en, st => some (.ev e en, wait st (.co (.lt x e f) en))
  | .op l e f, en, st => some (.ev e en, wait st (.co (.op l e f) en))
  | .call e f, en, st => some (.ev e en, wait st (.co (.call e f) en))
  | .ife c e f, en, st => some (.ev c en, wait st (.co (.ife c e f) en))
  | .pr e f, en, st => some (.ev e en, wait st (.co (.pr e f) en))
  | .bx e, en, st => some (.ev e en, wait st (.co (.bx e) en))
  | .get e, en, st => some (.ev e en, wait st (.co (.get e) en))
  | .put e f, en, st => some (.ev e en, wait st (.co (.put e f) en))
def w32 (i : Int) : Int := (i + 2147483648) % 4294967296 - 2147483648
def oper : Bool → Va → Va → Option Va
  | true, .int i, .int j => some (.bool (decide (i < j)))
  | false, .int i, .int j => some (.int (w32 (i - j)))
  | _, _, _ => none
/-- the function's own name, if it has one, bound to it -/
def ownE : Option Nm → Va → En → En
  | some h, f, en => .cons h f en
  | none, _, en => en
/-- the body of a function that is not wrapped -/
def enter0 : Va → Va → MS → Option (Nx × MS)
  | .fn own x e en, v, st => if st.calls = 0 then none else some (.ev e (.cons x v (ownE own (.fn own x e en) en)), { st with calls := st.calls - 1 })
  | _, _, _ => none
def enter : Va → Va → MS → Option (Nx × MS)
  | .wr f (.fn s t), v, st => (done s v).bind fun u => (addP st t).bind fun st' => enter0 f u st'
  | f, v, st => enter0 f v st
def setS (s : Nat → Option Va) (a : Nat) (v : Va) : Nat → Option Va := fun b => if b = a then some v else s b
def finish : Hd → Va → Va → MS → Option (Nx × MS)
  | .call, f, v, st => enter f v st
  | .pr, a, v, st => some (.va (.pr a v), st)
  | .put, .bx a, v, st => if (st.sto a).isSome = true then some (.va .unit, { st with sto := setS st.sto a v }) else none
  | .put, _, _, _ => none
inductive Res
  | nx (c : Nx) (st : MS) | al (v : Va) (st : MS) | fin (v : Va) (st : MS) | no
def ofO : Option (Nx × MS) → Res
  | some (c, st) => .nx c st
  | none => .no
def resume : Fr → Va → MS → Res
  | .co (.call _ f) en, v, st => .nx (.ev f en) (wait st (.sec .call v))
  | .co (.pr _ f) en, v, st => .nx (.ev f en) (wait st (.sec .pr v))
  | .co (.put _ f) en, v, st => .nx (.ev f en) (wait st (.sec .put v))
  | .co (.op l _ f) en, v, st => .nx (.ev f en) (wait st (.opd l v))
  | .sec h u, v, st => ofO (finish h u v st)
  | .opd l u, v, st => ofO ((oper l u v).map fun z => (.va z, st))
  | .co (.lt x _ f) en, v, st => .nx (.ev f (.cons x v en)) st
  | .co (.ife _ e f) en, .bool b, st => .nx (.ev (if b then e else f) en) st
  | .co (.bx _) _, v, st => .al v st
  | .co (.get _) _, .bx a, st => ofO ((st.sto a).map fun z => (.va z, st))
  | _, _, _ => .no
def step0 : Nx → MS → Res
  | .ev e en, st => ofO (begin e en st)
  | .va v, st => match st.stk with
    | [] => .fin v st
    | .ck c :: r => ofO ((remP st).bind fun q => (done q.1 v).map fun u => (.va u, q.2))
    | f :: r => resume f v { st with stk := r, wt := st.wt - 1 }
theorem step0_nil {v : Va} {st : MS} (h : st.stk = []) : step0 (.va v) st = .fin v st := by simp only [step0, h]
theorem step0_ck {v : Va} {st : MS} {c : Ck} {r : List Fr} (h : st.stk = .ck c :: r) : step0 (.va v) st = ofO ((remP st).bind fun q => (done q.1 v).map fun u => (.va u, q.2)) := by simp only [step0, h]
theorem step0_fr {v : Va} {st : MS} {f : Fr} {r : List Fr} (h : st.stk = f :: r) (hf : ∀ c, f ≠ .ck c) : step0 (.va v) st = resume f v { st with stk := r, wt := st.wt - 1 } := by
  cases f with
  | ck c => exact absurd rfl (hf c)
  | co e en => simp only [step0, h]
  | sec a b => simp only [step0, h]
  | opd a b => simp only [step0, h]
def step (c : Nx) (st : MS) : Res := if st.stk.length ≤ 900 then step0 c st else .no
/-- what is asked of a step's outcome; a new box's place is any free one -/
def EndR (P : Va → MS → Prop) (E : Nx → MS → Prop) : Res → Prop
  | .nx c st => E c st
  | .al v st => ∀ a, st.sto a = none → E (.va (.bx a)) { st with sto := setS st.sto a v }
  | .fin v st => P v st
  | .no => False
/-- the run ends within k steps, so that P -/
def Ends (P : Va → MS → Prop) : Nat → Nx → MS → Prop
  | 0, _, _ => False
  | k + 1, c, st => EndR P (Ends P k) (step c st)
theorem ends_step {P : Va → MS → Prop} {k : Nat} {c : Nx} {st : MS} (h : Ends P (k + 1) c st) : st.stk.length ≤ 900 ∧ EndR P (Ends P k) (step0 c st) := by
  have h' : EndR P (Ends P k) (if st.stk.length ≤ 900 then step0 c st else .no) := h
  by_cases hz : st.stk.length ≤ 900
  · rw [if_pos hz] at h'
    exact ⟨hz, h'⟩
  · rw [if_neg hz] at h'
    exact h'.elim
def start (calls : Int) : MS := ⟨calls, [], 0, 0, 0, 0, 0, 0, fun _ => none⟩
end Hn
end

/- HnE -/
section
set_option Elab.async false
set_option linter.all false
set_option maxRecDepth 100000
set_option maxHeartbeats 4000000
/-! Halfnoted: how types, checks, expressions, values lie in the heap. -/
namespace Hn
open PySem PySem.Spec PyProof.Rows L2 Evl
def Nm.str : Nm → Str
  | .n => "n" | .h => "h" | .b => "b" | .o => "o" | .s => "s" | .z0 => "z0" | .z1 => "z1" | .z2 => "z2"
theorem Nm.inj {x y : Nm} : decide (x.str = y.str) = decide (x = y) := by
  cases x <;> cases y <;> decide +kernel
def Gd.str : Gd → Str
  | .int => "int" | .bool => "bool" | .unit => "unit" | .fn => "fun" | .pr => "pair" | .bx => "box"
theorem Gd.inj {x y : Gd} : decide (x.str = y.str) = decide (x = y) := by
  cases x <;> cases y <;> decide +kernel
def Ty.d : Ty → D
  | .any => .t [.s "any"] | .int => .t [.s "int"] | .bool => .t [.s "bool"] | .unit => .t [.s "unit"]
  | .fn a b => .t [.s "fun", a.d, b.d] | .pr a b => .t [.s "pair", a.d, b.d] | .bx a => .t [.s "box", a.d]
/-- a type's kind -/
def Ty.k : Ty → Str
  | .any => "any" | .int => "int" | .bool => "bool" | .unit => "unit" | .fn _ _ => "fun" | .pr _ _ => "pair" | .bx _ => "box"
def Ck.d : Ck → D
  | .any => .t [.s "any"] | .same g => .t [.s "same", .s g.str] | .fn s t => .t [.s "fun", s.d, t.d] | .pr s t => .t [.s "pair", s.d, t.d] | .bx s t => .t [.s "box", s.d, t.d]
  | .give g => .t [.s "give", g.d] | .take g n s i => .t [.s "take", .s g.str, .t [.i n, .i s], i.d]
def Ck.k : Ck → Str
  | .any => "any" | .same _ => "same" | .fn _ _ => "fun" | .pr _ _ => "pair" | .bx _ _ => "box" | .give _ => "give" | .take _ _ _ _ => "take"
def sg : Bool → Str
  | true => "<" | false => "-"
def Sx.d : Sx → D
  | .num i => .t [.s "num", .i i] | .flag b => .t [.s "flag", .b b] | .unit => .t [.s "unit"] | .name x => .t [.s "name", .s x.str]
  | .fn x T e => .t [.s "fun", .s x.str, T.d, e.d] | .rc h x T U e => .t [.s "rec", .s h.str, .s x.str, T.d, U.d, e.d]
  | .call e f => .t [.s "call", e.d, f.d] | .lt x e f => .t [.s "let", .s x.str, e.d, f.d] | .ife c e f => .t [.s "if", c.d, e.d, f.d] | .pr e f => .t [.s "pair", e.d, f.d]
  | .bx e => .t [.s "box", e.d] | .get e => .t [.s "get", e.d] | .put e f => .t [.s "put", e.d, f.d] | .op l e f => .t [.s "op", .s (sg l), e.d, f.d] | .as e T => .t [.s "as", e.d, T.d]
def Co.d : Co → D
  | .num i => .t [.s "num", .i i] | .flag b => .t [.s "flag", .b b] | .unit => .t [.s "unit"] | .name x => .t [.s "name", .s x.str]
  | .fn x T e => .t [.s "fun", .s x.str, T.d, e.d] | .rc h x T U e => .t [.s "rec", .s h.str, .s x.str, T.d, U.d, e.d]
  | .call e f => .t [.s "call", e.d, f.d] | .lt x e f => .t [.s "let", .s x.str, e.d, f.d] | .ife c e f => .t [.s "if", c.d, e.d, f.d] | .pr e f => .t [.s "pair", e.d, f.d]
  | .bx e => .t [.s "box", e.d] | .get e => .t [.s "get", e.d] | .put e f => .t [.s "put", e.d, f.d] | .op l e f => .t [.s "op", .s (sg l), e.d, f.d] | .cast n A B e => .t [.s "cast", .i n, A.d, B.d, e.d]
def Co.k : Co → Str
  | .num _ => "num" | .flag _ => "flag" | .unit => "unit" | .name _ => "name" | .fn _ _ _ => "fun" | .rc _ _ _ _ _ => "rec" | .call _ _ => "call" | .lt _ _ _ => "let" | .ife _ _ _ => "if" | .pr _ _ => "pair"
  | .bx _ => "box" | .get _ => "get" | .put _ _ => "put" | .op _ _ _ => "op" | .cast _ _ _ _ => "cast"
mutual
def Va.d : Va → D
  | .int i => .t [.s "int", .i i] | .bool b => .t [.s "bool", .b b] | .unit => .t [.s "unit"]
  | .fn own x e env => .t [.s "fun", (match own with | none => .n | some h => .s h.str), .s x.str, e.d, env.d]
  | .pr a b => .t [.s "pair", a.d, b.d] | .bx a => .t [.s "box", .r a] | .wr v c => .t [.s "wrapped", v.d, c.d]
def En.d : En → D
  | .nil => .n | .cons x v r => .t [.s x.str, v.d, r.d]
end
def Va.k : Va → Str
  | .int _ => "int" | .bool _ => "bool" | .unit => "unit" | .fn _ _ _ _ => "fun" | .pr _ _ => "pair" | .bx _ => "box" | .wr _ _ => "wrapped"
def Hd.str : Hd → Str
  | .call => "call" | .pr => "pair" | .put => "put"
def Fr.d : Fr → D
  | .ck c => .t [.s "check", c.d] | .co e en => .t [.s e.k, e.d, en.d] | .sec h v => .t [.s "second", .s h.str, v.d] | .opd l v => .t [.s "operand", .s (sg l), v.d]
/-! ### == -/
theorem Ty.flat : ∀ A : Ty, A.d.flat = true
  | .any => by decide +kernel
  | .int => by decide +kernel
  | .bool => by decide +kernel
  | .unit => by decide +kernel
  | .fn a b => by
    show (PyData.strOk "fun" && (a.d.flat && (b.d.flat && true))) = true
    rw [Ty.flat a, Ty.flat b]; decide +kernel
  | .pr a b => by
    show (PyData.strOk "pair" && (a.d.flat && (b.d.flat && true))) = true
    rw [Ty.flat a, Ty.flat b]; decide +kernel
  | .bx a => by
    show (PyData.strOk "box" && (a.d.flat && true)) = true
    rw [Ty.flat a]; decide +kernel
theorem Ty.deep : ∀ A : Ty, A.d.py.depth ≤ ht A + 1
  | .any => by decide +kernel
  | .int => by decide +kernel
  | .bool => by decide +kernel
  | .unit => by decide +kernel
  | .fn a b => by
    have h1 := Ty.deep a
    have h2 := Ty.deep b
    show max 0 (max a.d.py.depth (max b.d.py.depth 0)) + 1 ≤ max (ht a) (ht b) + 1 + 1
    omega
  | .pr a b => by
    have h1 := Ty.deep a
    have h2 := Ty.deep b
    show max 0 (max a.d.py.depth (max b.d.py.depth 0)) + 1 ≤ max (ht a) (ht b) + 1 + 1
    omega
  | .bx a => by
    have h1 := Ty.deep a
    show max 0 (max a.d.py.depth 0) + 1 ≤ ht a + 1 + 1
    omega
theorem str_ne {x y : Str} (h : decide (x = y) = false) : (x == y) = false := by
  rw [Bool.beq_eq_decide_eq]; exact h
theorem eqv_ty : ∀ A B : Ty, PyData.eqv A.d.py B.d.py = decide (A = B) := by
  intro A
  induction A with
  | any => intro B; cases B <;> first | (simp [Ty.d, D.py, D.pys, PyData.eqv, PyData.eqvAll]; try decide +kernel)
  | int => intro B; cases B <;> first | (simp [Ty.d, D.py, D.pys, PyData.eqv, PyData.eqvAll]; try decide +kernel)
  | bool => intro B; cases B <;> first | (simp [Ty.d, D.py, D.pys, PyData.eqv, PyData.eqvAll]; try decide +kernel)
  | unit => intro B; cases B <;> first | (simp [Ty.d, D.py, D.pys, PyData.eqv, PyData.eqvAll]; try decide +kernel)
  | fn a b iha ihb =>
    intro B
    cases B with
    | fn c e =>
      show (("fun" : Str) == "fun" && (PyData.eqv a.d.py c.d.py && (PyData.eqv b.d.py e.d.py && true))) = _
      rw [iha, ihb, Bool.and_true]
      have e1 : (("fun" : Str) == "fun") = true := beq_self_eq_true _
      rw [e1, Bool.true_and, ← Bool.decide_and]
      exact decide_eq_decide.mpr ⟨fun ⟨p, q⟩ => by rw [p, q], fun p => by cases p; exact ⟨rfl, rfl⟩⟩
    | _ => simp [Ty.d, D.py, D.pys, PyData.eqv, PyData.eqvAll]; try first | decide +kernel | (intro e; exact absurd e (by decide +kernel))
  | pr a b iha ihb =>
    intro B
    cases B with
    | pr c e =>
      show (("pair" : Str) == "pair" && (PyData.eqv a.d.py c.d.py && (PyData.eqv b.d.py e.d.py && true))) = _
      rw [iha, ihb, Bool.and_true]
      have e1 : (("pair" : Str) == "pair") = true := beq_self_eq_true _
      rw [e1, Bool.true_and, ← Bool.decide_and]
      exact decide_eq_decide.mpr ⟨fun ⟨p, q⟩ => by rw [p, q], fun p => by cases p; exact ⟨rfl, rfl⟩⟩
    | _ => simp [Ty.d, D.py, D.pys, PyData.eqv, PyData.eqvAll]; try first | decide +kernel | (intro e; exact absurd e (by decide +kernel))
  | bx a iha =>
    intro B
    cases B with
    | bx c =>
      show (("box" : Str) == "box" && (PyData.eqv a.d.py c.d.py && true)) = _
      rw [iha, Bool.and_true]
      have e1 : (("box" : Str) == "box") = true := beq_self_eq_true _
      rw [e1, Bool.true_and]
      exact decide_eq_decide.mpr ⟨fun p => by rw [p], fun p => by cases p; rfl⟩
    | _ => simp [Ty.d, D.py, D.pys, PyData.eqv, PyData.eqvAll]; try first | decide +kernel | (intro e; exact absurd e (by decide +kernel))
theorem Gd.ok (g : Gd) : PyData.strOk g.str = true := by cases g <;> decide +kernel
theorem Ck.flat : ∀ c : Ck, c.d.flat = true
  | .any => by decide +kernel
  | .same g => by
    show (PyData.strOk "same" && (PyData.strOk g.str && true)) = true
    rw [Gd.ok]; decide +kernel
  | .fn a b => by
    show (PyData.strOk "fun" && (a.d.flat && (b.d.flat && true))) = true
    rw [Ck.flat a, Ck.flat b]; decide +kernel
  | .pr a b => by
    show (PyData.strOk "pair" && (a.d.flat && (b.d.flat && true))) = true
    rw [Ck.flat a, Ck.flat b]; decide +kernel
  | .bx a b => by
    show (PyData.strOk "box" && (a.d.flat && (b.d.flat && true))) = true
    rw [Ck.flat a, Ck.flat b]; decide +kernel
  | .give a => by
    show (PyData.strOk "give" && (a.d.flat && true)) = true
    rw [Ck.flat a]; decide +kernel
  | .take g n s i => by
    show (PyData.strOk "take" && (PyData.strOk g.str && (true && (i.d.flat && true)))) = true
    rw [Gd.ok, Ck.flat i]; decide +kernel
theorem Ck.deep : ∀ c : Ck, c.d.py.depth ≤ dp c + 1
  | .any => by decide +kernel
  | .same g => by
    show max 0 (max 0 0) + 1 ≤ 1 + 1
    omega
  | .fn a b => by
    have h1 := Ck.deep a
    have h2 := Ck.deep b
    show max 0 (max a.d.py.depth (max b.d.py.depth 0)) + 1 ≤ max (dp a) (dp b) + 1 + 1
    omega
  | .pr a b => by
    have h1 := Ck.deep a
    have h2 := Ck.deep b
    show max 0 (max a.d.py.depth (max b.d.py.depth 0)) + 1 ≤ max (dp a) (dp b) + 1 + 1
    omega
  | .bx a b => by
    have h1 := Ck.deep a
    have h2 := Ck.deep b
    show max 0 (max a.d.py.depth (max b.d.py.depth 0)) + 1 ≤ max (dp a) (dp b) + 1 + 1
    omega
  | .give a => by
    have h1 := Ck.deep a
    show max 0 (max a.d.py.depth 0) + 1 ≤ dp a + 1 + 1
    omega
  | .take g n s i => by
    have h1 := Ck.deep i
    have h2 : 1 ≤ dp i := by cases i <;> simp [dp]
    show max 0 (max 0 (max (max 0 (max 0 0) + 1) (max i.d.py.depth 0))) + 1 ≤ dp i + 1 + 1
    omega
theorem eqv_ck (c : Ck) : PyData.eqv c.d.py Ck.any.d.py = decide (c = .any) := by
  cases c <;> (simp [Ck.d, D.py, D.pys, PyData.eqv, PyData.eqvAll]; try decide +kernel)
end Hn
end

/- HnTop -/
section
set_option Elab.async false
set_option linter.all false
set_option maxRecDepth 100000
set_option maxHeartbeats 4000000
/-! Halfnoted: the text by places, its scopes and bindings, the facts of the top. -/
namespace Hn
open PySem PySem.Spec PyProof.Rows L2 Evl
def top (i : Nat) : Stmt := PySem.Challenge.pw_halfnoted_k29_loops_in_constant_space.main.body.getD i (.Pass ⟨0, 0, 0, 0⟩)
abbrev s_consistent : Stmt := top 3
abbrev s_meeting : Stmt := top 4
abbrev s_ground : Stmt := top 5
abbrev s_ground_type : Stmt := top 6
abbrev s_compound_check : Stmt := top 11
abbrev s_check_of : Stmt := top 12
abbrev s_plain_ground : Stmt := top 13
abbrev s_join_plain : Stmt := top 14
abbrev s_join_give : Stmt := top 15
abbrev s_join : Stmt := top 16
abbrev s_inner_checks : Stmt := top 17
abbrev s_check_size : Stmt := top 18
abbrev s_Cell_init : Stmt := inClass (top 23) 0
abbrev s_value_ground : Stmt := top 24
abbrev s_wrapped : Stmt := top 25
abbrev s_done : Stmt := top 26
abbrev s_looked_up : Stmt := top 27
abbrev s_operated : Stmt := top 28
abbrev s_shape : Stmt := top 29
abbrev s_Machine_init : Stmt := inClass (top 30) 0
abbrev s_Machine_measure : Stmt := inClass (top 30) 1
abbrev s_Machine_wait : Stmt := inClass (top 30) 2
abbrev s_Machine_go_on : Stmt := inClass (top 30) 3
abbrev s_Machine_add_pending : Stmt := inClass (top 30) 4
abbrev s_Machine_remove_pending : Stmt := inClass (top 30) 5
abbrev s_Machine_run : Stmt := inClass (top 30) 6
abbrev s_Machine_begin : Stmt := inClass (top 30) 7
abbrev s_Machine_resume : Stmt := inClass (top 30) 8
abbrev s_Machine_finish : Stmt := inClass (top 30) 9
abbrev s_Machine_enter : Stmt := inClass (top 30) 10
abbrev s_Machine_single : Stmt := inClass (top 30) 11
abbrev s_run_measured : Stmt := top 31
abbrev s_Part_init : Stmt := inClass (top 44) 0
abbrev s_Part_fitted : Stmt := inClass (top 44) 1
abbrev s_Checker_init : Stmt := inClass (top 45) 0
abbrev s_Checker_part : Stmt := inClass (top 45) 1
abbrev s_Checker_elaborated : Stmt := inClass (top 45) 2
abbrev s_Checker_binder : Stmt := inClass (top 45) 3
abbrev s_bound : Stmt := top 46
abbrev s_composed : Stmt := top 47
abbrev s_opened : Stmt := top 48
abbrev s_called : Stmt := top 49
abbrev s_simple : Stmt := top 50
abbrev s_elaborate : Stmt := top 51
abbrev s_law_state : Stmt := top 53
abbrev s_law_take : Stmt := top 54
abbrev s_law_type : Stmt := top 55
abbrev s_law_looser : Stmt := top 56
abbrev s_law_constant : Stmt := top 57
abbrev s_law_detour : Stmt := top 58
abbrev s_law_body : Stmt := top 59
abbrev s_law_loop : Stmt := top 60
abbrev s_law_shape : Stmt := top 61
abbrev s_law : Stmt := top 62

def d_consistent : He.DefD := ⟨("consistent", none), "consistent", "consistent", defArgs s_consistent, defBody s_consistent, defScope s_consistent, [], []⟩
def d_meeting : He.DefD := ⟨("meeting", none), "meeting", "meeting", defArgs s_meeting, defBody s_meeting, defScope s_meeting, [], []⟩
def d_ground : He.DefD := ⟨("ground", none), "ground", "ground", defArgs s_ground, defBody s_ground, defScope s_ground, [], []⟩
def d_ground_type : He.DefD := ⟨("ground_type", none), "ground_type", "ground_type", defArgs s_ground_type, defBody s_ground_type, defScope s_ground_type, [], []⟩
def d_compound_check : He.DefD := ⟨("compound_check", none), "compound_check", "compound_check", defArgs s_compound_check, defBody s_compound_check, defScope s_compound_check, [], []⟩
def d_check_of : He.DefD := ⟨("check_of", none), "check_of", "check_of", defArgs s_check_of, defBody s_check_of, defScope s_check_of, [], []⟩
def d_plain_ground : He.DefD := ⟨("plain_ground", none), "plain_ground", "plain_ground", defArgs s_plain_ground, defBody s_plain_ground, defScope s_plain_ground, [], []⟩
def d_join_plain : He.DefD := ⟨("join_plain", none), "join_plain", "join_plain", defArgs s_join_plain, defBody s_join_plain, defScope s_join_plain, [], []⟩
def d_join_give : He.DefD := ⟨("join_give", none), "join_give", "join_give", defArgs s_join_give, defBody s_join_give, defScope s_join_give, [], []⟩
def d_join : He.DefD := ⟨("join", none), "join", "join", defArgs s_join, defBody s_join, defScope s_join, [], []⟩
def d_inner_checks : He.DefD := ⟨("inner_checks", none), "inner_checks", "inner_checks", defArgs s_inner_checks, defBody s_inner_checks, defScope s_inner_checks, [], []⟩
def d_check_size : He.DefD := ⟨("check_size", none), "check_size", "check_size", defArgs s_check_size, defBody s_check_size, defScope s_check_size, [], []⟩
def d_Cell_init : He.DefD := ⟨("Cell", some "__init__"), "__init__", "Cell.__init__", defArgs s_Cell_init, defBody s_Cell_init, defScope s_Cell_init, [], []⟩
def d_value_ground : He.DefD := ⟨("value_ground", none), "value_ground", "value_ground", defArgs s_value_ground, defBody s_value_ground, defScope s_value_ground, [], []⟩
def d_wrapped : He.DefD := ⟨("wrapped", none), "wrapped", "wrapped", defArgs s_wrapped, defBody s_wrapped, defScope s_wrapped, [], []⟩
def d_done : He.DefD := ⟨("done", none), "done", "done", defArgs s_done, defBody s_done, defScope s_done, [], []⟩
def d_looked_up : He.DefD := ⟨("looked_up", none), "looked_up", "looked_up", defArgs s_looked_up, defBody s_looked_up, defScope s_looked_up, [], []⟩
def d_operated : He.DefD := ⟨("operated", none), "operated", "operated", defArgs s_operated, defBody s_operated, defScope s_operated, [], []⟩
def d_shape : He.DefD := ⟨("shape", none), "shape", "shape", defArgs s_shape, defBody s_shape, defScope s_shape, [], []⟩
def d_Machine_init : He.DefD := ⟨("Machine", some "__init__"), "__init__", "Machine.__init__", defArgs s_Machine_init, defBody s_Machine_init, defScope s_Machine_init, [], []⟩
def d_Machine_measure : He.DefD := ⟨("Machine", some "measure"), "measure", "Machine.measure", defArgs s_Machine_measure, defBody s_Machine_measure, defScope s_Machine_measure, [], []⟩
def d_Machine_wait : He.DefD := ⟨("Machine", some "wait"), "wait", "Machine.wait", defArgs s_Machine_wait, defBody s_Machine_wait, defScope s_Machine_wait, [], []⟩
def d_Machine_go_on : He.DefD := ⟨("Machine", some "go_on"), "go_on", "Machine.go_on", defArgs s_Machine_go_on, defBody s_Machine_go_on, defScope s_Machine_go_on, [], []⟩
def d_Machine_add_pending : He.DefD := ⟨("Machine", some "add_pending"), "add_pending", "Machine.add_pending", defArgs s_Machine_add_pending, defBody s_Machine_add_pending, defScope s_Machine_add_pending, [], []⟩
def d_Machine_remove_pending : He.DefD := ⟨("Machine", some "remove_pending"), "remove_pending", "Machine.remove_pending", defArgs s_Machine_remove_pending, defBody s_Machine_remove_pending, defScope s_Machine_remove_pending, [], []⟩
def d_Machine_run : He.DefD := ⟨("Machine", some "run"), "run", "Machine.run", defArgs s_Machine_run, defBody s_Machine_run, defScope s_Machine_run, [], []⟩
def d_Machine_begin : He.DefD := ⟨("Machine", some "begin"), "begin", "Machine.begin", defArgs s_Machine_begin, defBody s_Machine_begin, defScope s_Machine_begin, [], []⟩
def d_Machine_resume : He.DefD := ⟨("Machine", some "resume"), "resume", "Machine.resume", defArgs s_Machine_resume, defBody s_Machine_resume, defScope s_Machine_resume, [], []⟩
def d_Machine_finish : He.DefD := ⟨("Machine", some "finish"), "finish", "Machine.finish", defArgs s_Machine_finish, defBody s_Machine_finish, defScope s_Machine_finish, [], []⟩
def d_Machine_enter : He.DefD := ⟨("Machine", some "enter"), "enter", "Machine.enter", defArgs s_Machine_enter, defBody s_Machine_enter, defScope s_Machine_enter, [], []⟩
def d_Machine_single : He.DefD := ⟨("Machine", some "single"), "single", "Machine.single", defArgs s_Machine_single, defBody s_Machine_single, defScope s_Machine_single, [], []⟩
def d_run_measured : He.DefD := ⟨("run_measured", none), "run_measured", "run_measured", defArgs s_run_measured, defBody s_run_measured, defScope s_run_measured, [], []⟩
def d_Part_init : He.DefD := ⟨("Part", some "__init__"), "__init__", "Part.__init__", defArgs s_Part_init, defBody s_Part_init, defScope s_Part_init, [], []⟩
def d_Part_fitted : He.DefD := ⟨("Part", some "fitted"), "fitted", "Part.fitted", defArgs s_Part_fitted, defBody s_Part_fitted, defScope s_Part_fitted, [], []⟩
def d_Checker_init : He.DefD := ⟨("Checker", some "__init__"), "__init__", "Checker.__init__", defArgs s_Checker_init, defBody s_Checker_init, defScope s_Checker_init, [], []⟩
def d_Checker_part : He.DefD := ⟨("Checker", some "part"), "part", "Checker.part", defArgs s_Checker_part, defBody s_Checker_part, defScope s_Checker_part, [], []⟩
def d_Checker_elaborated : He.DefD := ⟨("Checker", some "elaborated"), "elaborated", "Checker.elaborated", defArgs s_Checker_elaborated, defBody s_Checker_elaborated, defScope s_Checker_elaborated, [], []⟩
def d_Checker_binder : He.DefD := ⟨("Checker", some "binder"), "binder", "Checker.binder", defArgs s_Checker_binder, defBody s_Checker_binder, defScope s_Checker_binder, [], []⟩
def d_bound : He.DefD := ⟨("bound", none), "bound", "bound", defArgs s_bound, defBody s_bound, defScope s_bound, [], []⟩
def d_composed : He.DefD := ⟨("composed", none), "composed", "composed", defArgs s_composed, defBody s_composed, defScope s_composed, [], []⟩
def d_opened : He.DefD := ⟨("opened", none), "opened", "opened", defArgs s_opened, defBody s_opened, defScope s_opened, [], []⟩
def d_called : He.DefD := ⟨("called", none), "called", "called", defArgs s_called, defBody s_called, defScope s_called, [], []⟩
def d_simple : He.DefD := ⟨("simple", none), "simple", "simple", defArgs s_simple, defBody s_simple, defScope s_simple, [], []⟩
def d_elaborate : He.DefD := ⟨("elaborate", none), "elaborate", "elaborate", defArgs s_elaborate, defBody s_elaborate, defScope s_elaborate, [], []⟩
def d_law_state : He.DefD := ⟨("_law_state", none), "_law_state", "_law_state", defArgs s_law_state, defBody s_law_state, defScope s_law_state, [], []⟩
def d_law_take : He.DefD := ⟨("_law_take", none), "_law_take", "_law_take", defArgs s_law_take, defBody s_law_take, defScope s_law_take, [], []⟩
def d_law_type : He.DefD := ⟨("_law_type", none), "_law_type", "_law_type", defArgs s_law_type, defBody s_law_type, defScope s_law_type, [], []⟩
def d_law_looser : He.DefD := ⟨("_law_looser", none), "_law_looser", "_law_looser", defArgs s_law_looser, defBody s_law_looser, defScope s_law_looser, [], []⟩
def d_law_constant : He.DefD := ⟨("_law_constant", none), "_law_constant", "_law_constant", defArgs s_law_constant, defBody s_law_constant, defScope s_law_constant, [], []⟩
def d_law_detour : He.DefD := ⟨("_law_detour", none), "_law_detour", "_law_detour", defArgs s_law_detour, defBody s_law_detour, defScope s_law_detour, [], []⟩
def d_law_body : He.DefD := ⟨("_law_body", none), "_law_body", "_law_body", defArgs s_law_body, defBody s_law_body, defScope s_law_body, [], []⟩
def d_law_loop : He.DefD := ⟨("_law_loop", none), "_law_loop", "_law_loop", defArgs s_law_loop, defBody s_law_loop, defScope s_law_loop, [], []⟩
def d_law_shape : He.DefD := ⟨("_law_shape", none), "_law_shape", "_law_shape", defArgs s_law_shape, defBody s_law_shape, defScope s_law_shape, [], []⟩
def d_law : He.DefD := ⟨("law", none), "law", "law", defArgs s_law, defBody s_law, defScope s_law, [], []⟩
def fn : List He.DefD := [d_consistent, d_meeting, d_ground, d_ground_type, d_compound_check, d_check_of, d_plain_ground, d_join_plain, d_join_give, d_join, d_inner_checks, d_check_size, d_Cell_init, d_value_ground, d_wrapped, d_done, d_looked_up, d_operated, d_shape, d_Machine_init, d_Machine_measure, d_Machine_wait, d_Machine_go_on, d_Machine_add_pending, d_Machine_remove_pending, d_Machine_run, d_Machine_begin, d_Machine_resume, d_Machine_finish, d_Machine_enter, d_Machine_single, d_run_measured, d_Part_init, d_Part_fitted, d_Checker_init, d_Checker_part, d_Checker_elaborated, d_Checker_binder, d_bound, d_composed, d_opened, d_called, d_simple, d_elaborate, d_law_state, d_law_take, d_law_type, d_law_looser, d_law_constant, d_law_detour, d_law_body, d_law_loop, d_law_shape, d_law]
def fa0 : List He.Fa := [.glo "consistent", .glo "meeting", .glo "ground", .glo "ground_type", .glo "compound_check", .glo "check_of", .glo "plain_ground", .glo "join_plain", .glo "join_give", .glo "join", .glo "inner_checks", .glo "check_size", .glo "value_ground", .glo "wrapped", .glo "done", .glo "looked_up", .glo "operated", .glo "shape", .glo "run_measured", .glo "bound", .glo "composed", .glo "opened", .glo "called", .glo "simple", .glo "elaborate", .glo "_law_state", .glo "_law_take", .glo "_law_type", .glo "_law_looser", .glo "_law_constant"]
def fa1 : List He.Fa := [.glo "_law_detour", .glo "_law_body", .glo "_law_loop", .glo "_law_shape", .glo "law", .glo "Cell", .glo "Machine", .glo "Part", .glo "Checker", .free "len", .free "range", .free "sum", .free "zip", .free "max", .free "tuple", .free "int", .free "abs", .free "reversed", .free "str", .free "repr", .int "HALF" 2147483648, .cls "Cell", .noat "Cell" "content", .mkr "Cell", .cls "Machine", .noat "Machine" "calls", .noat "Machine" "prints", .noat "Machine" "stack", .noat "Machine" "waiting", .noat "Machine" "pending"]
def fa2 : List He.Fa := [.noat "Machine" "cells", .noat "Machine" "most", .mkr "Machine", .meth "Machine" "measure", .meth "Machine" "wait", .meth "Machine" "go_on", .meth "Machine" "add_pending", .meth "Machine" "remove_pending", .meth "Machine" "run", .meth "Machine" "begin", .meth "Machine" "resume", .meth "Machine" "finish", .meth "Machine" "enter", .meth "Machine" "single", .cls "Part", .noat "Part" "number", .noat "Part" "core", .noat "Part" "known", .mkr "Part", .meth "Part" "fitted", .cls "Checker", .noat "Checker" "count", .mkr "Checker", .meth "Checker" "part", .meth "Checker" "elaborated", .meth "Checker" "binder", .glo "GROUND_TYPES"]
def fa : List He.Fa := fa0 ++ fa1 ++ fa2
def loose0 : List PySem.Str := ["ANY_types", "GROUND_TYPES", "consistent", "meeting", "ground", "ground_type", "ANY_checks", "SIMPLE", "COMPOUND", "compound_check", "check_of", "plain_ground", "join_plain", "join_give", "join", "inner_checks", "check_size", "UNIT_machine", "HALF", "Stop", "Cell", "value_ground", "wrapped", "done", "looked_up", "operated", "shape", "Machine", "run_measured", "Refused"]
def loose1 : List PySem.Str := ["Unknown", "Mismatched", "ANY_check", "INT", "BOOL", "UNIT_check", "ANY_FUNCTION", "ANY_PAIR", "ANY_BOX", "Part", "Checker", "bound", "composed", "opened", "called", "simple", "elaborate", "_law_state", "_law_take", "_law_type", "_law_looser", "_law_constant", "_law_detour", "_law_body", "_law_loop", "_law_shape"]
def loose : List PySem.Str := loose0 ++ loose1

/-! ### constants of the top -/
section
variable (K : PySem.W.Frag)
mutual
def isT : Value → D → Bool
  | v, .s y => (match v with
    | .str x _ => decide (x = y)
    | _ => false)
  | v, .t l => (match v with
    | .ref a => (match K.lookup a with
      | some ⟨.type c, _, .seq its _, _⟩ => decide (c = "tuple") && (decide (its.size ≤ sizeLine) && isTs its.toList l)
      | _ => false)
    | _ => false)
  | _, _ => false
def isTs : List Value → List D → Bool
  | [], [] => true
  | v :: vs, d :: l => isT v d && isTs vs l
  | _, _ => false
end
end
section
variable {K : PySem.W.Frag}
mutual
theorem isT_ok : ∀ {d : D} {v : Value}, isT K v d = true → ∃ x : V, RelV x v ∧ ∀ H, Rep K H d x
  | .s y, v, h => by
    unfold isT at h
    cases v with
    | str x t =>
      have e : x = y := of_decide_eq_true h
      exact ⟨.str y, ⟨t, by rw [e]⟩, fun _ => rfl⟩
    | _ => cases h
  | .t l, v, h => by
    unfold isT at h
    cases v with
    | ref a =>
      cases q : K.lookup a with
      | none =>
        simp only [q] at h
        cases h
      | some o =>
        obtain ⟨oc, od, dt, osl⟩ := o
        simp only [q] at h
        cases oc with
        | type c =>
          cases dt with
          | seq its n =>
            obtain ⟨h1, h2⟩ := Bool.and_eq_true_iff.mp (show (decide (c = "tuple") && (decide (its.size ≤ sizeLine) && isTs K its.toList l)) = true from h)
            obtain ⟨h3, h4⟩ := Bool.and_eq_true_iff.mp h2
            obtain ⟨xs, r1, r2⟩ := isTs_ok h4
            exact ⟨.ref a, rfl, fun H => ⟨a, xs, rfl, .inr ⟨_, its, n, q, congrArg Value.type (of_decide_eq_true h1), rfl, of_decide_eq_true h3, r1⟩, r2 H⟩⟩
          | _ => cases h
        | _ => cases dt <;> cases h
    | _ => cases h
  | .i _, _, h => by unfold isT at h; cases h
  | .b _, _, h => by unfold isT at h; cases h
  | .n, _, h => by unfold isT at h; cases h
  | .r _, _, h => by unfold isT at h; cases h
theorem isTs_ok : ∀ {l : List D} {vs : List Value}, isTs K vs l = true → ∃ xs : List V, Vals xs vs ∧ ∀ H, Reps K H l xs
  | [], [], _ => ⟨[], .nil, fun _ => rfl⟩
  | [], _ :: _, h => by unfold isTs at h; cases h
  | _ :: _, [], h => by unfold isTs at h; cases h
  | d :: l, v :: vs, h => by
    unfold isTs at h
    obtain ⟨h1, h2⟩ := Bool.and_eq_true_iff.mp h
    obtain ⟨x, r1, r2⟩ := isT_ok h1
    obtain ⟨xs, q1, q2⟩ := isTs_ok h2
    exact ⟨x :: xs, .cons r1 q1, fun H => .cons (r2 H) (q2 H)⟩
end
end
def gcon (K : PySem.W.Frag) (q : Str × D) : Bool := match PySem.W.nsIn K mainGlobals q.1 with
  | some (some v) => isT K v q.2
  | _ => false
def gtab (K : PySem.W.Frag) (q : Str × D) : Bool := match PySem.W.nsIn K (He.ga K "GROUND_TYPES") q.1 with
  | some (some v) => isT K v q.2
  | _ => false
/-- a name of the module that stands for a constant -/
def Gc (K : PySem.W.Frag) (mg : Str → Option Value) (x : Str) (d : D) : Prop := ∃ v u, mg x = some u ∧ RelV v u ∧ ∀ H, Rep K H d v
theorem gcon_ok {K : PySem.W.Frag} {mg : Str → Option Value} {h : Heap} (X : K.In h) (G : h.Ns mainGlobals mg) {q : Str × D} (c : gcon K q = true) : Gc K mg q.1 q.2 := by
  unfold gcon at c
  cases e : PySem.W.nsIn K mainGlobals q.1 with
  | none => rw [e] at c; cases c
  | some o =>
    cases o with
    | none => rw [e] at c; cases c
    | some v =>
      rw [e] at c
      obtain ⟨x, r1, r2⟩ := isT_ok c
      exact ⟨x, v, PySem.W.mg_of X G e, r1, r2⟩
theorem gtab_ok {K : PySem.W.Frag} {w : World} {q : Str × D} (c : gtab K q = true) (T : ∃ es n, KDict K w (He.ga K "GROUND_TYPES") es n) : ∃ v, KDct K w (He.ga K "GROUND_TYPES") q.1 v ∧ ∀ H, Rep K H q.2 v := by
  unfold gtab at c
  obtain ⟨es, n, D⟩ := T
  cases e : PySem.W.nsIn K (He.ga K "GROUND_TYPES") q.1 with
  | none => rw [e] at c; cases c
  | some o =>
    cases o with
    | none => rw [e] at c; cases c
    | some v =>
      rw [e] at c
      obtain ⟨x, r1, r2⟩ := isT_ok c
      exact ⟨x, ⟨es, n, v, D.at_, D.lit, e, r1⟩, r2⟩
def tS (x : Str) : D := .t [.s x]
def gcs : List (Str × D) := [("ANY_types", tS "any"), ("ANY_checks", tS "any"), ("ANY_check", tS "any"), ("UNIT_machine", tS "unit"), ("UNIT_check", tS "unit"), ("INT", tS "int"), ("BOOL", tS "bool"),
  ("SIMPLE", .t [.s "int", .s "bool", .s "unit"]), ("COMPOUND", .t [.s "fun", .s "pair", .s "box"]), ("ANY_FUNCTION", .t [.s "fun", tS "any", tS "any"]), ("ANY_PAIR", .t [.s "pair", tS "any", tS "any"]), ("ANY_BOX", .t [.s "box", tS "any"])]
def gts : List (Str × D) := [("int", tS "int"), ("bool", tS "bool"), ("unit", tS "unit"), ("fun", .t [.s "fun", tS "any", tS "any"]), ("pair", .t [.s "pair", tS "any", tS "any"]), ("box", .t [.s "box", tS "any"])]
def exK (K : PySem.W.Frag) : Bool := gcs.all (gcon K) && gts.all (gtab K)
def tab : List He.Tab := [(fun K => He.ga K "GROUND_TYPES", ["int", "bool", "unit", "fun", "pair", "box"])]
/-- what the walk asks of the top -/
structure Tx (w : World) (K : PySem.W.Frag) (mg : Str → Option Value) : Prop where
  d : He.SaysD fa fn K
  glo : ∀ (i : Nat) (x : Str), fa[i]? = some (.glo x) → mg x = some (.ref (He.ga K x))
  free : ∀ (i : Nat) (x : Str), fa[i]? = some (.free x) → mg x = none
  half : ∃ t, mg "HALF" = some (.int 2147483648 t)
  gt : mg "GROUND_TYPES" = some (.ref (He.ga K "GROUND_TYPES"))
  gc : ∀ (i : Nat) (q : Str × D), gcs[i]? = some q → Gc K mg q.1 q.2
  ts : ∀ (i : Nat) (q : Str × D), gts[i]? = some q → ∃ v, KDct K w (He.ga K "GROUND_TYPES") q.1 v ∧ ∀ H, Rep K H q.2 v
section
variable {P : Program} {w : World} {K : PySem.W.Frag} {mg : Str → Option Value} {base : Heap} {k : Nat} {sp : Sp}
theorem gl_consistent (T : Tx w K mg) : mg "consistent" = some (.ref (He.ga K "consistent")) := T.glo 0 _ rfl
theorem gl_meeting (T : Tx w K mg) : mg "meeting" = some (.ref (He.ga K "meeting")) := T.glo 1 _ rfl
theorem gl_ground (T : Tx w K mg) : mg "ground" = some (.ref (He.ga K "ground")) := T.glo 2 _ rfl
theorem gl_ground_type (T : Tx w K mg) : mg "ground_type" = some (.ref (He.ga K "ground_type")) := T.glo 3 _ rfl
theorem gl_compound_check (T : Tx w K mg) : mg "compound_check" = some (.ref (He.ga K "compound_check")) := T.glo 4 _ rfl
theorem gl_check_of (T : Tx w K mg) : mg "check_of" = some (.ref (He.ga K "check_of")) := T.glo 5 _ rfl
theorem gl_plain_ground (T : Tx w K mg) : mg "plain_ground" = some (.ref (He.ga K "plain_ground")) := T.glo 6 _ rfl
theorem gl_join_plain (T : Tx w K mg) : mg "join_plain" = some (.ref (He.ga K "join_plain")) := T.glo 7 _ rfl
theorem gl_join_give (T : Tx w K mg) : mg "join_give" = some (.ref (He.ga K "join_give")) := T.glo 8 _ rfl
theorem gl_join (T : Tx w K mg) : mg "join" = some (.ref (He.ga K "join")) := T.glo 9 _ rfl
theorem gl_inner_checks (T : Tx w K mg) : mg "inner_checks" = some (.ref (He.ga K "inner_checks")) := T.glo 10 _ rfl
theorem gl_check_size (T : Tx w K mg) : mg "check_size" = some (.ref (He.ga K "check_size")) := T.glo 11 _ rfl
theorem gl_value_ground (T : Tx w K mg) : mg "value_ground" = some (.ref (He.ga K "value_ground")) := T.glo 12 _ rfl
theorem gl_wrapped (T : Tx w K mg) : mg "wrapped" = some (.ref (He.ga K "wrapped")) := T.glo 13 _ rfl
theorem gl_done (T : Tx w K mg) : mg "done" = some (.ref (He.ga K "done")) := T.glo 14 _ rfl
theorem gl_looked_up (T : Tx w K mg) : mg "looked_up" = some (.ref (He.ga K "looked_up")) := T.glo 15 _ rfl
theorem gl_operated (T : Tx w K mg) : mg "operated" = some (.ref (He.ga K "operated")) := T.glo 16 _ rfl
theorem gl_shape (T : Tx w K mg) : mg "shape" = some (.ref (He.ga K "shape")) := T.glo 17 _ rfl
theorem gl_run_measured (T : Tx w K mg) : mg "run_measured" = some (.ref (He.ga K "run_measured")) := T.glo 18 _ rfl
theorem gl_bound (T : Tx w K mg) : mg "bound" = some (.ref (He.ga K "bound")) := T.glo 19 _ rfl
theorem gl_composed (T : Tx w K mg) : mg "composed" = some (.ref (He.ga K "composed")) := T.glo 20 _ rfl
theorem gl_opened (T : Tx w K mg) : mg "opened" = some (.ref (He.ga K "opened")) := T.glo 21 _ rfl
theorem gl_called (T : Tx w K mg) : mg "called" = some (.ref (He.ga K "called")) := T.glo 22 _ rfl
theorem gl_simple (T : Tx w K mg) : mg "simple" = some (.ref (He.ga K "simple")) := T.glo 23 _ rfl
theorem gl_elaborate (T : Tx w K mg) : mg "elaborate" = some (.ref (He.ga K "elaborate")) := T.glo 24 _ rfl
theorem gl_law_state (T : Tx w K mg) : mg "_law_state" = some (.ref (He.ga K "_law_state")) := T.glo 25 _ rfl
theorem gl_law_take (T : Tx w K mg) : mg "_law_take" = some (.ref (He.ga K "_law_take")) := T.glo 26 _ rfl
theorem gl_law_type (T : Tx w K mg) : mg "_law_type" = some (.ref (He.ga K "_law_type")) := T.glo 27 _ rfl
theorem gl_law_looser (T : Tx w K mg) : mg "_law_looser" = some (.ref (He.ga K "_law_looser")) := T.glo 28 _ rfl
theorem gl_law_constant (T : Tx w K mg) : mg "_law_constant" = some (.ref (He.ga K "_law_constant")) := T.glo 29 _ rfl
theorem gl_law_detour (T : Tx w K mg) : mg "_law_detour" = some (.ref (He.ga K "_law_detour")) := T.glo 30 _ rfl
theorem gl_law_body (T : Tx w K mg) : mg "_law_body" = some (.ref (He.ga K "_law_body")) := T.glo 31 _ rfl
theorem gl_law_loop (T : Tx w K mg) : mg "_law_loop" = some (.ref (He.ga K "_law_loop")) := T.glo 32 _ rfl
theorem gl_law_shape (T : Tx w K mg) : mg "_law_shape" = some (.ref (He.ga K "_law_shape")) := T.glo 33 _ rfl
theorem gl_law (T : Tx w K mg) : mg "law" = some (.ref (He.ga K "law")) := T.glo 34 _ rfl
theorem gl_Cell (T : Tx w K mg) : mg "Cell" = some (.ref (He.ga K "Cell")) := T.glo 35 _ rfl
theorem gl_Machine (T : Tx w K mg) : mg "Machine" = some (.ref (He.ga K "Machine")) := T.glo 36 _ rfl
theorem gl_Part (T : Tx w K mg) : mg "Part" = some (.ref (He.ga K "Part")) := T.glo 37 _ rfl
theorem gl_Checker (T : Tx w K mg) : mg "Checker" = some (.ref (He.ga K "Checker")) := T.glo 38 _ rfl
theorem fr_len (T : Tx w K mg) : mg "len" = none := T.free 39 _ rfl
theorem fr_range (T : Tx w K mg) : mg "range" = none := T.free 40 _ rfl
theorem fr_sum (T : Tx w K mg) : mg "sum" = none := T.free 41 _ rfl
theorem fr_zip (T : Tx w K mg) : mg "zip" = none := T.free 42 _ rfl
theorem fr_max (T : Tx w K mg) : mg "max" = none := T.free 43 _ rfl
theorem fr_tuple (T : Tx w K mg) : mg "tuple" = none := T.free 44 _ rfl
theorem fr_int (T : Tx w K mg) : mg "int" = none := T.free 45 _ rfl
theorem fr_abs (T : Tx w K mg) : mg "abs" = none := T.free 46 _ rfl
theorem fr_reversed (T : Tx w K mg) : mg "reversed" = none := T.free 47 _ rfl
theorem fr_str (T : Tx w K mg) : mg "str" = none := T.free 48 _ rfl
theorem fr_repr (T : Tx w K mg) : mg "repr" = none := T.free 49 _ rfl
theorem cl_Cell (T : Tx w K mg) : Cls K (He.ga K "Cell") := He.cls_ok (T.d.fact 51 (f := .cls "Cell") rfl)
theorem na_Cell_content (T : Tx w K mg) : NoAttr K (He.ga K "Cell") "content" := He.noat_ok (T.d.fact 52 (f := .noat "Cell" "content") rfl)
theorem cl_Machine (T : Tx w K mg) : Cls K (He.ga K "Machine") := He.cls_ok (T.d.fact 54 (f := .cls "Machine") rfl)
theorem na_Machine_calls (T : Tx w K mg) : NoAttr K (He.ga K "Machine") "calls" := He.noat_ok (T.d.fact 55 (f := .noat "Machine" "calls") rfl)
theorem na_Machine_prints (T : Tx w K mg) : NoAttr K (He.ga K "Machine") "prints" := He.noat_ok (T.d.fact 56 (f := .noat "Machine" "prints") rfl)
theorem na_Machine_stack (T : Tx w K mg) : NoAttr K (He.ga K "Machine") "stack" := He.noat_ok (T.d.fact 57 (f := .noat "Machine" "stack") rfl)
theorem na_Machine_waiting (T : Tx w K mg) : NoAttr K (He.ga K "Machine") "waiting" := He.noat_ok (T.d.fact 58 (f := .noat "Machine" "waiting") rfl)
theorem na_Machine_pending (T : Tx w K mg) : NoAttr K (He.ga K "Machine") "pending" := He.noat_ok (T.d.fact 59 (f := .noat "Machine" "pending") rfl)
theorem na_Machine_cells (T : Tx w K mg) : NoAttr K (He.ga K "Machine") "cells" := He.noat_ok (T.d.fact 60 (f := .noat "Machine" "cells") rfl)
theorem na_Machine_most (T : Tx w K mg) : NoAttr K (He.ga K "Machine") "most" := He.noat_ok (T.d.fact 61 (f := .noat "Machine" "most") rfl)
theorem cl_Part (T : Tx w K mg) : Cls K (He.ga K "Part") := He.cls_ok (T.d.fact 74 (f := .cls "Part") rfl)
theorem na_Part_number (T : Tx w K mg) : NoAttr K (He.ga K "Part") "number" := He.noat_ok (T.d.fact 75 (f := .noat "Part" "number") rfl)
theorem na_Part_core (T : Tx w K mg) : NoAttr K (He.ga K "Part") "core" := He.noat_ok (T.d.fact 76 (f := .noat "Part" "core") rfl)
theorem na_Part_known (T : Tx w K mg) : NoAttr K (He.ga K "Part") "known" := He.noat_ok (T.d.fact 77 (f := .noat "Part" "known") rfl)
theorem cl_Checker (T : Tx w K mg) : Cls K (He.ga K "Checker") := He.cls_ok (T.d.fact 80 (f := .cls "Checker") rfl)
theorem na_Checker_count (T : Tx w K mg) : NoAttr K (He.ga K "Checker") "count" := He.noat_ok (T.d.fact 81 (f := .noat "Checker" "count") rfl)
theorem gl_GROUND_TYPES (T : Tx w K mg) : mg "GROUND_TYPES" = some (.ref (He.ga K "GROUND_TYPES")) := T.glo 86 _ rfl
theorem gc_ANY_types (T : Tx w K mg) : Gc K mg "ANY_types" (gcs[0]'(by decide)).2 := T.gc 0 _ rfl
theorem gc_ANY_checks (T : Tx w K mg) : Gc K mg "ANY_checks" (gcs[1]'(by decide)).2 := T.gc 1 _ rfl
theorem gc_ANY_check (T : Tx w K mg) : Gc K mg "ANY_check" (gcs[2]'(by decide)).2 := T.gc 2 _ rfl
theorem gc_UNIT_machine (T : Tx w K mg) : Gc K mg "UNIT_machine" (gcs[3]'(by decide)).2 := T.gc 3 _ rfl
theorem gc_UNIT_check (T : Tx w K mg) : Gc K mg "UNIT_check" (gcs[4]'(by decide)).2 := T.gc 4 _ rfl
theorem gc_INT (T : Tx w K mg) : Gc K mg "INT" (gcs[5]'(by decide)).2 := T.gc 5 _ rfl
theorem gc_BOOL (T : Tx w K mg) : Gc K mg "BOOL" (gcs[6]'(by decide)).2 := T.gc 6 _ rfl
theorem gc_SIMPLE (T : Tx w K mg) : Gc K mg "SIMPLE" (gcs[7]'(by decide)).2 := T.gc 7 _ rfl
theorem gc_COMPOUND (T : Tx w K mg) : Gc K mg "COMPOUND" (gcs[8]'(by decide)).2 := T.gc 8 _ rfl
theorem gc_ANY_FUNCTION (T : Tx w K mg) : Gc K mg "ANY_FUNCTION" (gcs[9]'(by decide)).2 := T.gc 9 _ rfl
theorem gc_ANY_PAIR (T : Tx w K mg) : Gc K mg "ANY_PAIR" (gcs[10]'(by decide)).2 := T.gc 10 _ rfl
theorem gc_ANY_BOX (T : Tx w K mg) : Gc K mg "ANY_BOX" (gcs[11]'(by decide)).2 := T.gc 11 _ rfl
theorem sc_consistent : FnScope ["one", "other", "index"] ["one", "other"] (defScope s_consistent) := ⟨rfl, rfl, rfl, by decide +kernel, rfl, by decide +kernel, by decide +kernel⟩
theorem bi_consistent : BindsBy "consistent" "consistent" (defArgs s_consistent) (defBody s_consistent) (defScope s_consistent) ["one", "other"] := fun _ _ _ _ _ _ us hl => match us, hl with | [_, _], _ => rfl
abbrev F_consistent (K : PySem.W.Frag) (fd : FuncData) : Prop := FunD K "consistent" "consistent" (defArgs s_consistent) (defBody s_consistent) (defScope s_consistent) [] [] (He.fAd K ("consistent", none)) fd
theorem D_consistent (T : Tx w K mg) : ∃ fd, F_consistent K fd := T.d.def_ 0 (d := d_consistent) rfl
theorem mk_consistent (T : Tx w K mg) (G : ∀ fd, F_consistent K fd → FnOk P w K mg base C8.CX0 k (He.ga K "consistent") fd ["one", "other"] sp) : C8.Cal P w K mg base k "consistent" sp [] := by
  obtain ⟨fd, F⟩ := D_consistent T
  exact cal_data F (gl_consistent T) bi_consistent (G fd F)
theorem sc_meeting : FnScope ["one", "other", "parts", "index", "part"] ["one", "other"] (defScope s_meeting) := ⟨rfl, rfl, rfl, by decide +kernel, rfl, by decide +kernel, by decide +kernel⟩
theorem bi_meeting : BindsBy "meeting" "meeting" (defArgs s_meeting) (defBody s_meeting) (defScope s_meeting) ["one", "other"] := fun _ _ _ _ _ _ us hl => match us, hl with | [_, _], _ => rfl
abbrev F_meeting (K : PySem.W.Frag) (fd : FuncData) : Prop := FunD K "meeting" "meeting" (defArgs s_meeting) (defBody s_meeting) (defScope s_meeting) [] [] (He.fAd K ("meeting", none)) fd
theorem D_meeting (T : Tx w K mg) : ∃ fd, F_meeting K fd := T.d.def_ 1 (d := d_meeting) rfl
theorem mk_meeting (T : Tx w K mg) (G : ∀ fd, F_meeting K fd → FnOk P w K mg base C8.CX0 k (He.ga K "meeting") fd ["one", "other"] sp) : C8.Cal P w K mg base k "meeting" sp [] := by
  obtain ⟨fd, F⟩ := D_meeting T
  exact cal_data F (gl_meeting T) bi_meeting (G fd F)
theorem sc_ground : FnScope ["known"] ["known"] (defScope s_ground) := ⟨rfl, rfl, rfl, by decide +kernel, rfl, by decide +kernel, by decide +kernel⟩
theorem bi_ground : BindsBy "ground" "ground" (defArgs s_ground) (defBody s_ground) (defScope s_ground) ["known"] := fun _ _ _ _ _ _ us hl => match us, hl with | [_], _ => rfl
abbrev F_ground (K : PySem.W.Frag) (fd : FuncData) : Prop := FunD K "ground" "ground" (defArgs s_ground) (defBody s_ground) (defScope s_ground) [] [] (He.fAd K ("ground", none)) fd
theorem D_ground (T : Tx w K mg) : ∃ fd, F_ground K fd := T.d.def_ 2 (d := d_ground) rfl
theorem mk_ground (T : Tx w K mg) (G : ∀ fd, F_ground K fd → FnOk P w K mg base C8.CX0 k (He.ga K "ground") fd ["known"] sp) : C8.Cal P w K mg base k "ground" sp [] := by
  obtain ⟨fd, F⟩ := D_ground T
  exact cal_data F (gl_ground T) bi_ground (G fd F)
theorem sc_ground_type : FnScope ["name"] ["name"] (defScope s_ground_type) := ⟨rfl, rfl, rfl, by decide +kernel, rfl, by decide +kernel, by decide +kernel⟩
theorem bi_ground_type : BindsBy "ground_type" "ground_type" (defArgs s_ground_type) (defBody s_ground_type) (defScope s_ground_type) ["name"] := fun _ _ _ _ _ _ us hl => match us, hl with | [_], _ => rfl
abbrev F_ground_type (K : PySem.W.Frag) (fd : FuncData) : Prop := FunD K "ground_type" "ground_type" (defArgs s_ground_type) (defBody s_ground_type) (defScope s_ground_type) [] [] (He.fAd K ("ground_type", none)) fd
theorem D_ground_type (T : Tx w K mg) : ∃ fd, F_ground_type K fd := T.d.def_ 3 (d := d_ground_type) rfl
theorem mk_ground_type (T : Tx w K mg) (G : ∀ fd, F_ground_type K fd → FnOk P w K mg base C8.CX0 k (He.ga K "ground_type") fd ["name"] sp) : C8.Cal P w K mg base k "ground_type" sp [] := by
  obtain ⟨fd, F⟩ := D_ground_type T
  exact cal_data F (gl_ground_type T) bi_ground_type (G fd F)
theorem sc_compound_check : FnScope ["source", "target", "number", "side", "kind", "first", "last", "second"] ["source", "target", "number", "side"] (defScope s_compound_check) := ⟨rfl, rfl, rfl, by decide +kernel, rfl, by decide +kernel, by decide +kernel⟩
theorem bi_compound_check : BindsBy "compound_check" "compound_check" (defArgs s_compound_check) (defBody s_compound_check) (defScope s_compound_check) ["source", "target", "number", "side"] := fun _ _ _ _ _ _ us hl => match us, hl with | [_, _, _, _], _ => rfl
abbrev F_compound_check (K : PySem.W.Frag) (fd : FuncData) : Prop := FunD K "compound_check" "compound_check" (defArgs s_compound_check) (defBody s_compound_check) (defScope s_compound_check) [] [] (He.fAd K ("compound_check", none)) fd
theorem D_compound_check (T : Tx w K mg) : ∃ fd, F_compound_check K fd := T.d.def_ 4 (d := d_compound_check) rfl
theorem mk_compound_check (T : Tx w K mg) (G : ∀ fd, F_compound_check K fd → FnOk P w K mg base C8.CX0 k (He.ga K "compound_check") fd ["source", "target", "number", "side"] sp) : C8.Cal P w K mg base k "compound_check" sp [] := by
  obtain ⟨fd, F⟩ := D_compound_check T
  exact cal_data F (gl_compound_check T) bi_compound_check (G fd F)
theorem sc_check_of : FnScope ["source", "target", "number", "side", "middle", "name"] ["source", "target", "number", "side"] (defScope s_check_of) := ⟨rfl, rfl, rfl, by decide +kernel, rfl, by decide +kernel, by decide +kernel⟩
abbrev F_check_of (K : PySem.W.Frag) (fd : FuncData) : Prop := FunD K "check_of" "check_of" (defArgs s_check_of) (defBody s_check_of) (defScope s_check_of) [] [] (He.fAd K ("check_of", none)) fd
theorem D_check_of (T : Tx w K mg) : ∃ fd, F_check_of K fd := T.d.def_ 5 (d := d_check_of) rfl
theorem sc_plain_ground : FnScope ["check"] ["check"] (defScope s_plain_ground) := ⟨rfl, rfl, rfl, by decide +kernel, rfl, by decide +kernel, by decide +kernel⟩
theorem bi_plain_ground : BindsBy "plain_ground" "plain_ground" (defArgs s_plain_ground) (defBody s_plain_ground) (defScope s_plain_ground) ["check"] := fun _ _ _ _ _ _ us hl => match us, hl with | [_], _ => rfl
abbrev F_plain_ground (K : PySem.W.Frag) (fd : FuncData) : Prop := FunD K "plain_ground" "plain_ground" (defArgs s_plain_ground) (defBody s_plain_ground) (defScope s_plain_ground) [] [] (He.fAd K ("plain_ground", none)) fd
theorem D_plain_ground (T : Tx w K mg) : ∃ fd, F_plain_ground K fd := T.d.def_ 6 (d := d_plain_ground) rfl
theorem mk_plain_ground (T : Tx w K mg) (G : ∀ fd, F_plain_ground K fd → FnOk P w K mg base C8.CX0 k (He.ga K "plain_ground") fd ["check"] sp) : C8.Cal P w K mg base k "plain_ground" sp [] := by
  obtain ⟨fd, F⟩ := D_plain_ground T
  exact cal_data F (gl_plain_ground T) bi_plain_ground (G fd F)
theorem sc_join_plain : FnScope ["first", "second"] ["first", "second"] (defScope s_join_plain) := ⟨rfl, rfl, rfl, by decide +kernel, rfl, by decide +kernel, by decide +kernel⟩
theorem bi_join_plain : BindsBy "join_plain" "join_plain" (defArgs s_join_plain) (defBody s_join_plain) (defScope s_join_plain) ["first", "second"] := fun _ _ _ _ _ _ us hl => match us, hl with | [_, _], _ => rfl
abbrev F_join_plain (K : PySem.W.Frag) (fd : FuncData) : Prop := FunD K "join_plain" "join_plain" (defArgs s_join_plain) (defBody s_join_plain) (defScope s_join_plain) [] [] (He.fAd K ("join_plain", none)) fd
theorem D_join_plain (T : Tx w K mg) : ∃ fd, F_join_plain K fd := T.d.def_ 7 (d := d_join_plain) rfl
theorem mk_join_plain (T : Tx w K mg) (G : ∀ fd, F_join_plain K fd → FnOk P w K mg base C8.CX0 k (He.ga K "join_plain") fd ["first", "second"] sp) : C8.Cal P w K mg base k "join_plain" sp [] := by
  obtain ⟨fd, F⟩ := D_join_plain T
  exact cal_data F (gl_join_plain T) bi_join_plain (G fd F)
theorem sc_join_give : FnScope ["first", "second", "inner"] ["first", "second"] (defScope s_join_give) := ⟨rfl, rfl, rfl, by decide +kernel, rfl, by decide +kernel, by decide +kernel⟩
theorem bi_join_give : BindsBy "join_give" "join_give" (defArgs s_join_give) (defBody s_join_give) (defScope s_join_give) ["first", "second"] := fun _ _ _ _ _ _ us hl => match us, hl with | [_, _], _ => rfl
abbrev F_join_give (K : PySem.W.Frag) (fd : FuncData) : Prop := FunD K "join_give" "join_give" (defArgs s_join_give) (defBody s_join_give) (defScope s_join_give) [] [] (He.fAd K ("join_give", none)) fd
theorem D_join_give (T : Tx w K mg) : ∃ fd, F_join_give K fd := T.d.def_ 8 (d := d_join_give) rfl
theorem mk_join_give (T : Tx w K mg) (G : ∀ fd, F_join_give K fd → FnOk P w K mg base C8.CX0 k (He.ga K "join_give") fd ["first", "second"] sp) : C8.Cal P w K mg base k "join_give" sp [] := by
  obtain ⟨fd, F⟩ := D_join_give T
  exact cal_data F (gl_join_give T) bi_join_give (G fd F)
theorem sc_join : FnScope ["first", "second"] ["first", "second"] (defScope s_join) := ⟨rfl, rfl, rfl, by decide +kernel, rfl, by decide +kernel, by decide +kernel⟩
theorem bi_join : BindsBy "join" "join" (defArgs s_join) (defBody s_join) (defScope s_join) ["first", "second"] := fun _ _ _ _ _ _ us hl => match us, hl with | [_, _], _ => rfl
abbrev F_join (K : PySem.W.Frag) (fd : FuncData) : Prop := FunD K "join" "join" (defArgs s_join) (defBody s_join) (defScope s_join) [] [] (He.fAd K ("join", none)) fd
theorem D_join (T : Tx w K mg) : ∃ fd, F_join K fd := T.d.def_ 9 (d := d_join) rfl
theorem mk_join (T : Tx w K mg) (G : ∀ fd, F_join K fd → FnOk P w K mg base C8.CX0 k (He.ga K "join") fd ["first", "second"] sp) : C8.Cal P w K mg base k "join" sp [] := by
  obtain ⟨fd, F⟩ := D_join T
  exact cal_data F (gl_join T) bi_join (G fd F)
theorem sc_inner_checks : FnScope ["check"] ["check"] (defScope s_inner_checks) := ⟨rfl, rfl, rfl, by decide +kernel, rfl, by decide +kernel, by decide +kernel⟩
theorem bi_inner_checks : BindsBy "inner_checks" "inner_checks" (defArgs s_inner_checks) (defBody s_inner_checks) (defScope s_inner_checks) ["check"] := fun _ _ _ _ _ _ us hl => match us, hl with | [_], _ => rfl
abbrev F_inner_checks (K : PySem.W.Frag) (fd : FuncData) : Prop := FunD K "inner_checks" "inner_checks" (defArgs s_inner_checks) (defBody s_inner_checks) (defScope s_inner_checks) [] [] (He.fAd K ("inner_checks", none)) fd
theorem D_inner_checks (T : Tx w K mg) : ∃ fd, F_inner_checks K fd := T.d.def_ 10 (d := d_inner_checks) rfl
theorem mk_inner_checks (T : Tx w K mg) (G : ∀ fd, F_inner_checks K fd → FnOk P w K mg base C8.CX0 k (He.ga K "inner_checks") fd ["check"] sp) : C8.Cal P w K mg base k "inner_checks" sp [] := by
  obtain ⟨fd, F⟩ := D_inner_checks T
  exact cal_data F (gl_inner_checks T) bi_inner_checks (G fd F)
theorem sc_check_size : FnScope ["check", "inner"] ["check"] (defScope s_check_size) := ⟨rfl, rfl, rfl, by decide +kernel, rfl, by decide +kernel, by decide +kernel⟩
theorem bi_check_size : BindsBy "check_size" "check_size" (defArgs s_check_size) (defBody s_check_size) (defScope s_check_size) ["check"] := fun _ _ _ _ _ _ us hl => match us, hl with | [_], _ => rfl
abbrev F_check_size (K : PySem.W.Frag) (fd : FuncData) : Prop := FunD K "check_size" "check_size" (defArgs s_check_size) (defBody s_check_size) (defScope s_check_size) [] [] (He.fAd K ("check_size", none)) fd
theorem D_check_size (T : Tx w K mg) : ∃ fd, F_check_size K fd := T.d.def_ 11 (d := d_check_size) rfl
theorem mk_check_size (T : Tx w K mg) (G : ∀ fd, F_check_size K fd → FnOk P w K mg base C8.CX0 k (He.ga K "check_size") fd ["check"] sp) : C8.Cal P w K mg base k "check_size" sp [] := by
  obtain ⟨fd, F⟩ := D_check_size T
  exact cal_data F (gl_check_size T) bi_check_size (G fd F)
theorem sc_Cell_init : FnScope ["self", "content"] ["self", "content"] (defScope s_Cell_init) := ⟨rfl, rfl, rfl, by decide +kernel, rfl, by decide +kernel, by decide +kernel⟩
theorem bi_Cell_init : BindsBy "__init__" "Cell.__init__" (defArgs s_Cell_init) (defBody s_Cell_init) (defScope s_Cell_init) ["self", "content"] := fun _ _ _ _ _ _ us hl => match us, hl with | [_, _], _ => rfl
abbrev F_Cell_init (K : PySem.W.Frag) (fd : FuncData) : Prop := FunD K "__init__" "Cell.__init__" (defArgs s_Cell_init) (defBody s_Cell_init) (defScope s_Cell_init) [] [] (He.fAd K ("Cell", some "__init__")) fd
theorem D_Cell_init (T : Tx w K mg) : ∃ fd, F_Cell_init K fd := T.d.def_ 12 (d := d_Cell_init) rfl
theorem mk_Cell_init (T : Tx w K mg) (G : ∀ fd, F_Cell_init K fd → FnOk P w K mg base C8.CX0 k (He.ma K (He.ga K "Cell") "__init__") fd ["self", "content"] sp) : C8.Mak P w K mg base k "Cell" (He.ga K "Cell") sp [] := by
  obtain ⟨fd, F⟩ := D_Cell_init T
  exact ⟨_, fd, ["self", "content"], [], He.mkr_ok (T.d.fact 53 (f := .mkr "Cell") rfl), G fd F, gl_Cell T, F.bindsN bi_Cell_init, .nil⟩
theorem sc_value_ground : FnScope ["value"] ["value"] (defScope s_value_ground) := ⟨rfl, rfl, rfl, by decide +kernel, rfl, by decide +kernel, by decide +kernel⟩
theorem bi_value_ground : BindsBy "value_ground" "value_ground" (defArgs s_value_ground) (defBody s_value_ground) (defScope s_value_ground) ["value"] := fun _ _ _ _ _ _ us hl => match us, hl with | [_], _ => rfl
abbrev F_value_ground (K : PySem.W.Frag) (fd : FuncData) : Prop := FunD K "value_ground" "value_ground" (defArgs s_value_ground) (defBody s_value_ground) (defScope s_value_ground) [] [] (He.fAd K ("value_ground", none)) fd
theorem D_value_ground (T : Tx w K mg) : ∃ fd, F_value_ground K fd := T.d.def_ 13 (d := d_value_ground) rfl
theorem mk_value_ground (T : Tx w K mg) (G : ∀ fd, F_value_ground K fd → FnOk P w K mg base C8.CX0 k (He.ga K "value_ground") fd ["value"] sp) : C8.Cal P w K mg base k "value_ground" sp [] := by
  obtain ⟨fd, F⟩ := D_value_ground T
  exact cal_data F (gl_value_ground T) bi_value_ground (G fd F)
theorem sc_wrapped : FnScope ["value", "check"] ["value", "check"] (defScope s_wrapped) := ⟨rfl, rfl, rfl, by decide +kernel, rfl, by decide +kernel, by decide +kernel⟩
theorem bi_wrapped : BindsBy "wrapped" "wrapped" (defArgs s_wrapped) (defBody s_wrapped) (defScope s_wrapped) ["value", "check"] := fun _ _ _ _ _ _ us hl => match us, hl with | [_, _], _ => rfl
abbrev F_wrapped (K : PySem.W.Frag) (fd : FuncData) : Prop := FunD K "wrapped" "wrapped" (defArgs s_wrapped) (defBody s_wrapped) (defScope s_wrapped) [] [] (He.fAd K ("wrapped", none)) fd
theorem D_wrapped (T : Tx w K mg) : ∃ fd, F_wrapped K fd := T.d.def_ 14 (d := d_wrapped) rfl
theorem mk_wrapped (T : Tx w K mg) (G : ∀ fd, F_wrapped K fd → FnOk P w K mg base C8.CX0 k (He.ga K "wrapped") fd ["value", "check"] sp) : C8.Cal P w K mg base k "wrapped" sp [] := by
  obtain ⟨fd, F⟩ := D_wrapped T
  exact cal_data F (gl_wrapped T) bi_wrapped (G fd F)
theorem sc_done : FnScope ["check", "value"] ["check", "value"] (defScope s_done) := ⟨rfl, rfl, rfl, by decide +kernel, rfl, by decide +kernel, by decide +kernel⟩
theorem bi_done : BindsBy "done" "done" (defArgs s_done) (defBody s_done) (defScope s_done) ["check", "value"] := fun _ _ _ _ _ _ us hl => match us, hl with | [_, _], _ => rfl
abbrev F_done (K : PySem.W.Frag) (fd : FuncData) : Prop := FunD K "done" "done" (defArgs s_done) (defBody s_done) (defScope s_done) [] [] (He.fAd K ("done", none)) fd
theorem D_done (T : Tx w K mg) : ∃ fd, F_done K fd := T.d.def_ 15 (d := d_done) rfl
theorem mk_done (T : Tx w K mg) (G : ∀ fd, F_done K fd → FnOk P w K mg base C8.CX0 k (He.ga K "done") fd ["check", "value"] sp) : C8.Cal P w K mg base k "done" sp [] := by
  obtain ⟨fd, F⟩ := D_done T
  exact cal_data F (gl_done T) bi_done (G fd F)
theorem sc_looked_up : FnScope ["env", "name"] ["env", "name"] (defScope s_looked_up) := ⟨rfl, rfl, rfl, by decide +kernel, rfl, by decide +kernel, by decide +kernel⟩
theorem bi_looked_up : BindsBy "looked_up" "looked_up" (defArgs s_looked_up) (defBody s_looked_up) (defScope s_looked_up) ["env", "name"] := fun _ _ _ _ _ _ us hl => match us, hl with | [_, _], _ => rfl
abbrev F_looked_up (K : PySem.W.Frag) (fd : FuncData) : Prop := FunD K "looked_up" "looked_up" (defArgs s_looked_up) (defBody s_looked_up) (defScope s_looked_up) [] [] (He.fAd K ("looked_up", none)) fd
theorem D_looked_up (T : Tx w K mg) : ∃ fd, F_looked_up K fd := T.d.def_ 16 (d := d_looked_up) rfl
theorem mk_looked_up (T : Tx w K mg) (G : ∀ fd, F_looked_up K fd → FnOk P w K mg base C8.CX0 k (He.ga K "looked_up") fd ["env", "name"] sp) : C8.Cal P w K mg base k "looked_up" sp [] := by
  obtain ⟨fd, F⟩ := D_looked_up T
  exact cal_data F (gl_looked_up T) bi_looked_up (G fd F)
theorem sc_operated : FnScope ["sign", "one", "two", "number"] ["sign", "one", "two"] (defScope s_operated) := ⟨rfl, rfl, rfl, by decide +kernel, rfl, by decide +kernel, by decide +kernel⟩
theorem bi_operated : BindsBy "operated" "operated" (defArgs s_operated) (defBody s_operated) (defScope s_operated) ["sign", "one", "two"] := fun _ _ _ _ _ _ us hl => match us, hl with | [_, _, _], _ => rfl
abbrev F_operated (K : PySem.W.Frag) (fd : FuncData) : Prop := FunD K "operated" "operated" (defArgs s_operated) (defBody s_operated) (defScope s_operated) [] [] (He.fAd K ("operated", none)) fd
theorem D_operated (T : Tx w K mg) : ∃ fd, F_operated K fd := T.d.def_ 17 (d := d_operated) rfl
theorem mk_operated (T : Tx w K mg) (G : ∀ fd, F_operated K fd → FnOk P w K mg base C8.CX0 k (He.ga K "operated") fd ["sign", "one", "two"] sp) : C8.Cal P w K mg base k "operated" sp [] := by
  obtain ⟨fd, F⟩ := D_operated T
  exact cal_data F (gl_operated T) bi_operated (G fd F)
theorem sc_shape : FnScope ["value"] ["value"] (defScope s_shape) := ⟨rfl, rfl, rfl, by decide +kernel, rfl, by decide +kernel, by decide +kernel⟩
theorem bi_shape : BindsBy "shape" "shape" (defArgs s_shape) (defBody s_shape) (defScope s_shape) ["value"] := fun _ _ _ _ _ _ us hl => match us, hl with | [_], _ => rfl
abbrev F_shape (K : PySem.W.Frag) (fd : FuncData) : Prop := FunD K "shape" "shape" (defArgs s_shape) (defBody s_shape) (defScope s_shape) [] [] (He.fAd K ("shape", none)) fd
theorem D_shape (T : Tx w K mg) : ∃ fd, F_shape K fd := T.d.def_ 18 (d := d_shape) rfl
theorem mk_shape (T : Tx w K mg) (G : ∀ fd, F_shape K fd → FnOk P w K mg base C8.CX0 k (He.ga K "shape") fd ["value"] sp) : C8.Cal P w K mg base k "shape" sp [] := by
  obtain ⟨fd, F⟩ := D_shape T
  exact cal_data F (gl_shape T) bi_shape (G fd F)
theorem sc_Machine_init : FnScope ["self", "calls"] ["self", "calls"] (defScope s_Machine_init) := ⟨rfl, rfl, rfl, by decide +kernel, rfl, by decide +kernel, by decide +kernel⟩
theorem bi_Machine_init : BindsBy "__init__" "Machine.__init__" (defArgs s_Machine_init) (defBody s_Machine_init) (defScope s_Machine_init) ["self", "calls"] := fun _ _ _ _ _ _ us hl => match us, hl with | [_, _], _ => rfl
abbrev F_Machine_init (K : PySem.W.Frag) (fd : FuncData) : Prop := FunD K "__init__" "Machine.__init__" (defArgs s_Machine_init) (defBody s_Machine_init) (defScope s_Machine_init) [] [] (He.fAd K ("Machine", some "__init__")) fd
theorem D_Machine_init (T : Tx w K mg) : ∃ fd, F_Machine_init K fd := T.d.def_ 19 (d := d_Machine_init) rfl
theorem mk_Machine_init (T : Tx w K mg) (G : ∀ fd, F_Machine_init K fd → FnOk P w K mg base C8.CX0 k (He.ma K (He.ga K "Machine") "__init__") fd ["self", "calls"] sp) : C8.Mak P w K mg base k "Machine" (He.ga K "Machine") sp [] := by
  obtain ⟨fd, F⟩ := D_Machine_init T
  exact ⟨_, fd, ["self", "calls"], [], He.mkr_ok (T.d.fact 62 (f := .mkr "Machine") rfl), G fd F, gl_Machine T, F.bindsN bi_Machine_init, .nil⟩
theorem sc_Machine_measure : FnScope ["self", "now", "old", "new"] ["self"] (defScope s_Machine_measure) := ⟨rfl, rfl, rfl, by decide +kernel, rfl, by decide +kernel, by decide +kernel⟩
theorem bi_Machine_measure : BindsBy "measure" "Machine.measure" (defArgs s_Machine_measure) (defBody s_Machine_measure) (defScope s_Machine_measure) ["self"] := fun _ _ _ _ _ _ us hl => match us, hl with | [_], _ => rfl
abbrev F_Machine_measure (K : PySem.W.Frag) (fd : FuncData) : Prop := FunD K "measure" "Machine.measure" (defArgs s_Machine_measure) (defBody s_Machine_measure) (defScope s_Machine_measure) [] [] (He.fAd K ("Machine", some "measure")) fd
theorem D_Machine_measure (T : Tx w K mg) : ∃ fd, F_Machine_measure K fd := T.d.def_ 20 (d := d_Machine_measure) rfl
theorem me_Machine_measure (T : Tx w K mg) : Meth K (He.ga K "Machine") "measure" (He.ma K (He.ga K "Machine") "measure") := He.meth_ok (T.d.fact 63 (f := .meth "Machine" "measure") rfl)
theorem mk_Machine_measure (T : Tx w K mg) (G : ∀ fd, F_Machine_measure K fd → FnOk P w K mg base C8.CX0 k (He.ma K (He.ga K "Machine") "measure") fd ["self"] sp) : C8.Met P w K mg base k (He.ga K "Machine") "measure" sp [] := by
  obtain ⟨fd, F⟩ := D_Machine_measure T
  exact ⟨_, fd, ["self"], [], cl_Machine T, me_Machine_measure T, G fd F, F.bindsN bi_Machine_measure, .nil⟩
theorem sc_Machine_wait : FnScope ["self", "frame"] ["self", "frame"] (defScope s_Machine_wait) := ⟨rfl, rfl, rfl, by decide +kernel, rfl, by decide +kernel, by decide +kernel⟩
theorem bi_Machine_wait : BindsBy "wait" "Machine.wait" (defArgs s_Machine_wait) (defBody s_Machine_wait) (defScope s_Machine_wait) ["self", "frame"] := fun _ _ _ _ _ _ us hl => match us, hl with | [_, _], _ => rfl
abbrev F_Machine_wait (K : PySem.W.Frag) (fd : FuncData) : Prop := FunD K "wait" "Machine.wait" (defArgs s_Machine_wait) (defBody s_Machine_wait) (defScope s_Machine_wait) [] [] (He.fAd K ("Machine", some "wait")) fd
theorem D_Machine_wait (T : Tx w K mg) : ∃ fd, F_Machine_wait K fd := T.d.def_ 21 (d := d_Machine_wait) rfl
theorem me_Machine_wait (T : Tx w K mg) : Meth K (He.ga K "Machine") "wait" (He.ma K (He.ga K "Machine") "wait") := He.meth_ok (T.d.fact 64 (f := .meth "Machine" "wait") rfl)
theorem mk_Machine_wait (T : Tx w K mg) (G : ∀ fd, F_Machine_wait K fd → FnOk P w K mg base C8.CX0 k (He.ma K (He.ga K "Machine") "wait") fd ["self", "frame"] sp) : C8.Met P w K mg base k (He.ga K "Machine") "wait" sp [] := by
  obtain ⟨fd, F⟩ := D_Machine_wait T
  exact ⟨_, fd, ["self", "frame"], [], cl_Machine T, me_Machine_wait T, G fd F, F.bindsN bi_Machine_wait, .nil⟩
theorem sc_Machine_go_on : FnScope ["self"] ["self"] (defScope s_Machine_go_on) := ⟨rfl, rfl, rfl, by decide +kernel, rfl, by decide +kernel, by decide +kernel⟩
theorem bi_Machine_go_on : BindsBy "go_on" "Machine.go_on" (defArgs s_Machine_go_on) (defBody s_Machine_go_on) (defScope s_Machine_go_on) ["self"] := fun _ _ _ _ _ _ us hl => match us, hl with | [_], _ => rfl
abbrev F_Machine_go_on (K : PySem.W.Frag) (fd : FuncData) : Prop := FunD K "go_on" "Machine.go_on" (defArgs s_Machine_go_on) (defBody s_Machine_go_on) (defScope s_Machine_go_on) [] [] (He.fAd K ("Machine", some "go_on")) fd
theorem D_Machine_go_on (T : Tx w K mg) : ∃ fd, F_Machine_go_on K fd := T.d.def_ 22 (d := d_Machine_go_on) rfl
theorem me_Machine_go_on (T : Tx w K mg) : Meth K (He.ga K "Machine") "go_on" (He.ma K (He.ga K "Machine") "go_on") := He.meth_ok (T.d.fact 65 (f := .meth "Machine" "go_on") rfl)
theorem mk_Machine_go_on (T : Tx w K mg) (G : ∀ fd, F_Machine_go_on K fd → FnOk P w K mg base C8.CX0 k (He.ma K (He.ga K "Machine") "go_on") fd ["self"] sp) : C8.Met P w K mg base k (He.ga K "Machine") "go_on" sp [] := by
  obtain ⟨fd, F⟩ := D_Machine_go_on T
  exact ⟨_, fd, ["self"], [], cl_Machine T, me_Machine_go_on T, G fd F, F.bindsN bi_Machine_go_on, .nil⟩
theorem sc_Machine_add_pending : FnScope ["self", "check"] ["self", "check"] (defScope s_Machine_add_pending) := ⟨rfl, rfl, rfl, by decide +kernel, rfl, by decide +kernel, by decide +kernel⟩
theorem bi_Machine_add_pending : BindsBy "add_pending" "Machine.add_pending" (defArgs s_Machine_add_pending) (defBody s_Machine_add_pending) (defScope s_Machine_add_pending) ["self", "check"] := fun _ _ _ _ _ _ us hl => match us, hl with | [_, _], _ => rfl
abbrev F_Machine_add_pending (K : PySem.W.Frag) (fd : FuncData) : Prop := FunD K "add_pending" "Machine.add_pending" (defArgs s_Machine_add_pending) (defBody s_Machine_add_pending) (defScope s_Machine_add_pending) [] [] (He.fAd K ("Machine", some "add_pending")) fd
theorem D_Machine_add_pending (T : Tx w K mg) : ∃ fd, F_Machine_add_pending K fd := T.d.def_ 23 (d := d_Machine_add_pending) rfl
theorem me_Machine_add_pending (T : Tx w K mg) : Meth K (He.ga K "Machine") "add_pending" (He.ma K (He.ga K "Machine") "add_pending") := He.meth_ok (T.d.fact 66 (f := .meth "Machine" "add_pending") rfl)
theorem mk_Machine_add_pending (T : Tx w K mg) (G : ∀ fd, F_Machine_add_pending K fd → FnOk P w K mg base C8.CX0 k (He.ma K (He.ga K "Machine") "add_pending") fd ["self", "check"] sp) : C8.Met P w K mg base k (He.ga K "Machine") "add_pending" sp [] := by
  obtain ⟨fd, F⟩ := D_Machine_add_pending T
  exact ⟨_, fd, ["self", "check"], [], cl_Machine T, me_Machine_add_pending T, G fd F, F.bindsN bi_Machine_add_pending, .nil⟩
theorem sc_Machine_remove_pending : FnScope ["self", "check"] ["self"] (defScope s_Machine_remove_pending) := ⟨rfl, rfl, rfl, by decide +kernel, rfl, by decide +kernel, by decide +kernel⟩
theorem bi_Machine_remove_pending : BindsBy "remove_pending" "Machine.remove_pending" (defArgs s_Machine_remove_pending) (defBody s_Machine_remove_pending) (defScope s_Machine_remove_pending) ["self"] := fun _ _ _ _ _ _ us hl => match us, hl with | [_], _ => rfl
abbrev F_Machine_remove_pending (K : PySem.W.Frag) (fd : FuncData) : Prop := FunD K "remove_pending" "Machine.remove_pending" (defArgs s_Machine_remove_pending) (defBody s_Machine_remove_pending) (defScope s_Machine_remove_pending) [] [] (He.fAd K ("Machine", some "remove_pending")) fd
theorem D_Machine_remove_pending (T : Tx w K mg) : ∃ fd, F_Machine_remove_pending K fd := T.d.def_ 24 (d := d_Machine_remove_pending) rfl
theorem me_Machine_remove_pending (T : Tx w K mg) : Meth K (He.ga K "Machine") "remove_pending" (He.ma K (He.ga K "Machine") "remove_pending") := He.meth_ok (T.d.fact 67 (f := .meth "Machine" "remove_pending") rfl)
theorem mk_Machine_remove_pending (T : Tx w K mg) (G : ∀ fd, F_Machine_remove_pending K fd → FnOk P w K mg base C8.CX0 k (He.ma K (He.ga K "Machine") "remove_pending") fd ["self"] sp) : C8.Met P w K mg base k (He.ga K "Machine") "remove_pending" sp [] := by
  obtain ⟨fd, F⟩ := D_Machine_remove_pending T
  exact ⟨_, fd, ["self"], [], cl_Machine T, me_Machine_remove_pending T, G fd F, F.bindsN bi_Machine_remove_pending, .nil⟩
theorem sc_Machine_run : FnScope ["self", "core", "current", "env", "value"] ["self", "core"] (defScope s_Machine_run) := ⟨rfl, rfl, rfl, by decide +kernel, rfl, by decide +kernel, by decide +kernel⟩
theorem bi_Machine_run : BindsBy "run" "Machine.run" (defArgs s_Machine_run) (defBody s_Machine_run) (defScope s_Machine_run) ["self", "core"] := fun _ _ _ _ _ _ us hl => match us, hl with | [_, _], _ => rfl
abbrev F_Machine_run (K : PySem.W.Frag) (fd : FuncData) : Prop := FunD K "run" "Machine.run" (defArgs s_Machine_run) (defBody s_Machine_run) (defScope s_Machine_run) [] [] (He.fAd K ("Machine", some "run")) fd
theorem D_Machine_run (T : Tx w K mg) : ∃ fd, F_Machine_run K fd := T.d.def_ 25 (d := d_Machine_run) rfl
theorem me_Machine_run (T : Tx w K mg) : Meth K (He.ga K "Machine") "run" (He.ma K (He.ga K "Machine") "run") := He.meth_ok (T.d.fact 68 (f := .meth "Machine" "run") rfl)
theorem mk_Machine_run (T : Tx w K mg) (G : ∀ fd, F_Machine_run K fd → FnOk P w K mg base C8.CX0 k (He.ma K (He.ga K "Machine") "run") fd ["self", "core"] sp) : C8.Met P w K mg base k (He.ga K "Machine") "run" sp [] := by
  obtain ⟨fd, F⟩ := D_Machine_run T
  exact ⟨_, fd, ["self", "core"], [], cl_Machine T, me_Machine_run T, G fd F, F.bindsN bi_Machine_run, .nil⟩
theorem sc_Machine_begin : FnScope ["self", "core", "env", "head"] ["self", "core", "env"] (defScope s_Machine_begin) := ⟨rfl, rfl, rfl, by decide +kernel, rfl, by decide +kernel, by decide +kernel⟩
theorem bi_Machine_begin : BindsBy "begin" "Machine.begin" (defArgs s_Machine_begin) (defBody s_Machine_begin) (defScope s_Machine_begin) ["self", "core", "env"] := fun _ _ _ _ _ _ us hl => match us, hl with | [_, _, _], _ => rfl
abbrev F_Machine_begin (K : PySem.W.Frag) (fd : FuncData) : Prop := FunD K "begin" "Machine.begin" (defArgs s_Machine_begin) (defBody s_Machine_begin) (defScope s_Machine_begin) [] [] (He.fAd K ("Machine", some "begin")) fd
theorem D_Machine_begin (T : Tx w K mg) : ∃ fd, F_Machine_begin K fd := T.d.def_ 26 (d := d_Machine_begin) rfl
theorem me_Machine_begin (T : Tx w K mg) : Meth K (He.ga K "Machine") "begin" (He.ma K (He.ga K "Machine") "begin") := He.meth_ok (T.d.fact 69 (f := .meth "Machine" "begin") rfl)
theorem mk_Machine_begin (T : Tx w K mg) (G : ∀ fd, F_Machine_begin K fd → FnOk P w K mg base C8.CX0 k (He.ma K (He.ga K "Machine") "begin") fd ["self", "core", "env"] sp) : C8.Met P w K mg base k (He.ga K "Machine") "begin" sp [] := by
  obtain ⟨fd, F⟩ := D_Machine_begin T
  exact ⟨_, fd, ["self", "core", "env"], [], cl_Machine T, me_Machine_begin T, G fd F, F.bindsN bi_Machine_begin, .nil⟩
theorem sc_Machine_resume : FnScope ["self", "frame", "value", "head"] ["self", "frame", "value"] (defScope s_Machine_resume) := ⟨rfl, rfl, rfl, by decide +kernel, rfl, by decide +kernel, by decide +kernel⟩
theorem bi_Machine_resume : BindsBy "resume" "Machine.resume" (defArgs s_Machine_resume) (defBody s_Machine_resume) (defScope s_Machine_resume) ["self", "frame", "value"] := fun _ _ _ _ _ _ us hl => match us, hl with | [_, _, _], _ => rfl
abbrev F_Machine_resume (K : PySem.W.Frag) (fd : FuncData) : Prop := FunD K "resume" "Machine.resume" (defArgs s_Machine_resume) (defBody s_Machine_resume) (defScope s_Machine_resume) [] [] (He.fAd K ("Machine", some "resume")) fd
theorem D_Machine_resume (T : Tx w K mg) : ∃ fd, F_Machine_resume K fd := T.d.def_ 27 (d := d_Machine_resume) rfl
theorem me_Machine_resume (T : Tx w K mg) : Meth K (He.ga K "Machine") "resume" (He.ma K (He.ga K "Machine") "resume") := He.meth_ok (T.d.fact 70 (f := .meth "Machine" "resume") rfl)
theorem mk_Machine_resume (T : Tx w K mg) (G : ∀ fd, F_Machine_resume K fd → FnOk P w K mg base C8.CX0 k (He.ma K (He.ga K "Machine") "resume") fd ["self", "frame", "value"] sp) : C8.Met P w K mg base k (He.ga K "Machine") "resume" sp [] := by
  obtain ⟨fd, F⟩ := D_Machine_resume T
  exact ⟨_, fd, ["self", "frame", "value"], [], cl_Machine T, me_Machine_resume T, G fd F, F.bindsN bi_Machine_resume, .nil⟩
theorem sc_Machine_finish : FnScope ["self", "head", "first", "second"] ["self", "head", "first", "second"] (defScope s_Machine_finish) := ⟨rfl, rfl, rfl, by decide +kernel, rfl, by decide +kernel, by decide +kernel⟩
theorem bi_Machine_finish : BindsBy "finish" "Machine.finish" (defArgs s_Machine_finish) (defBody s_Machine_finish) (defScope s_Machine_finish) ["self", "head", "first", "second"] := fun _ _ _ _ _ _ us hl => match us, hl with | [_, _, _, _], _ => rfl
abbrev F_Machine_finish (K : PySem.W.Frag) (fd : FuncData) : Prop := FunD K "finish" "Machine.finish" (defArgs s_Machine_finish) (defBody s_Machine_finish) (defScope s_Machine_finish) [] [] (He.fAd K ("Machine", some "finish")) fd
theorem D_Machine_finish (T : Tx w K mg) : ∃ fd, F_Machine_finish K fd := T.d.def_ 28 (d := d_Machine_finish) rfl
theorem me_Machine_finish (T : Tx w K mg) : Meth K (He.ga K "Machine") "finish" (He.ma K (He.ga K "Machine") "finish") := He.meth_ok (T.d.fact 71 (f := .meth "Machine" "finish") rfl)
theorem mk_Machine_finish (T : Tx w K mg) (G : ∀ fd, F_Machine_finish K fd → FnOk P w K mg base C8.CX0 k (He.ma K (He.ga K "Machine") "finish") fd ["self", "head", "first", "second"] sp) : C8.Met P w K mg base k (He.ga K "Machine") "finish" sp [] := by
  obtain ⟨fd, F⟩ := D_Machine_finish T
  exact ⟨_, fd, ["self", "head", "first", "second"], [], cl_Machine T, me_Machine_finish T, G fd F, F.bindsN bi_Machine_finish, .nil⟩
theorem sc_Machine_enter : FnScope ["self", "function", "argument", "check", "env"] ["self", "function", "argument"] (defScope s_Machine_enter) := ⟨rfl, rfl, rfl, by decide +kernel, rfl, by decide +kernel, by decide +kernel⟩
theorem bi_Machine_enter : BindsBy "enter" "Machine.enter" (defArgs s_Machine_enter) (defBody s_Machine_enter) (defScope s_Machine_enter) ["self", "function", "argument"] := fun _ _ _ _ _ _ us hl => match us, hl with | [_, _, _], _ => rfl
abbrev F_Machine_enter (K : PySem.W.Frag) (fd : FuncData) : Prop := FunD K "enter" "Machine.enter" (defArgs s_Machine_enter) (defBody s_Machine_enter) (defScope s_Machine_enter) [] [] (He.fAd K ("Machine", some "enter")) fd
theorem D_Machine_enter (T : Tx w K mg) : ∃ fd, F_Machine_enter K fd := T.d.def_ 29 (d := d_Machine_enter) rfl
theorem me_Machine_enter (T : Tx w K mg) : Meth K (He.ga K "Machine") "enter" (He.ma K (He.ga K "Machine") "enter") := He.meth_ok (T.d.fact 72 (f := .meth "Machine" "enter") rfl)
theorem mk_Machine_enter (T : Tx w K mg) (G : ∀ fd, F_Machine_enter K fd → FnOk P w K mg base C8.CX0 k (He.ma K (He.ga K "Machine") "enter") fd ["self", "function", "argument"] sp) : C8.Met P w K mg base k (He.ga K "Machine") "enter" sp [] := by
  obtain ⟨fd, F⟩ := D_Machine_enter T
  exact ⟨_, fd, ["self", "function", "argument"], [], cl_Machine T, me_Machine_enter T, G fd F, F.bindsN bi_Machine_enter, .nil⟩
theorem sc_Machine_single : FnScope ["self", "head", "value", "check", "result", "place"] ["self", "head", "value"] (defScope s_Machine_single) := ⟨rfl, rfl, rfl, by decide +kernel, rfl, by decide +kernel, by decide +kernel⟩
theorem bi_Machine_single : BindsBy "single" "Machine.single" (defArgs s_Machine_single) (defBody s_Machine_single) (defScope s_Machine_single) ["self", "head", "value"] := fun _ _ _ _ _ _ us hl => match us, hl with | [_, _, _], _ => rfl
abbrev F_Machine_single (K : PySem.W.Frag) (fd : FuncData) : Prop := FunD K "single" "Machine.single" (defArgs s_Machine_single) (defBody s_Machine_single) (defScope s_Machine_single) [] [] (He.fAd K ("Machine", some "single")) fd
theorem D_Machine_single (T : Tx w K mg) : ∃ fd, F_Machine_single K fd := T.d.def_ 30 (d := d_Machine_single) rfl
theorem me_Machine_single (T : Tx w K mg) : Meth K (He.ga K "Machine") "single" (He.ma K (He.ga K "Machine") "single") := He.meth_ok (T.d.fact 73 (f := .meth "Machine" "single") rfl)
theorem mk_Machine_single (T : Tx w K mg) (G : ∀ fd, F_Machine_single K fd → FnOk P w K mg base C8.CX0 k (He.ma K (He.ga K "Machine") "single") fd ["self", "head", "value"] sp) : C8.Met P w K mg base k (He.ga K "Machine") "single" sp [] := by
  obtain ⟨fd, F⟩ := D_Machine_single T
  exact ⟨_, fd, ["self", "head", "value"], [], cl_Machine T, me_Machine_single T, G fd F, F.bindsN bi_Machine_single, .nil⟩
theorem sc_run_measured : FnScope ["core", "calls", "machine", "end", "stop"] ["core", "calls"] (defScope s_run_measured) := ⟨rfl, rfl, rfl, by decide +kernel, rfl, by decide +kernel, by decide +kernel⟩
theorem bi_run_measured : BindsBy "run_measured" "run_measured" (defArgs s_run_measured) (defBody s_run_measured) (defScope s_run_measured) ["core", "calls"] := fun _ _ _ _ _ _ us hl => match us, hl with | [_, _], _ => rfl
abbrev F_run_measured (K : PySem.W.Frag) (fd : FuncData) : Prop := FunD K "run_measured" "run_measured" (defArgs s_run_measured) (defBody s_run_measured) (defScope s_run_measured) [] [] (He.fAd K ("run_measured", none)) fd
theorem D_run_measured (T : Tx w K mg) : ∃ fd, F_run_measured K fd := T.d.def_ 31 (d := d_run_measured) rfl
theorem mk_run_measured (T : Tx w K mg) (G : ∀ fd, F_run_measured K fd → FnOk P w K mg base C8.CX0 k (He.ga K "run_measured") fd ["core", "calls"] sp) : C8.Cal P w K mg base k "run_measured" sp [] := by
  obtain ⟨fd, F⟩ := D_run_measured T
  exact cal_data F (gl_run_measured T) bi_run_measured (G fd F)
theorem sc_Part_init : FnScope ["self", "number", "core", "known"] ["self", "number", "core", "known"] (defScope s_Part_init) := ⟨rfl, rfl, rfl, by decide +kernel, rfl, by decide +kernel, by decide +kernel⟩
theorem bi_Part_init : BindsBy "__init__" "Part.__init__" (defArgs s_Part_init) (defBody s_Part_init) (defScope s_Part_init) ["self", "number", "core", "known"] := fun _ _ _ _ _ _ us hl => match us, hl with | [_, _, _, _], _ => rfl
abbrev F_Part_init (K : PySem.W.Frag) (fd : FuncData) : Prop := FunD K "__init__" "Part.__init__" (defArgs s_Part_init) (defBody s_Part_init) (defScope s_Part_init) [] [] (He.fAd K ("Part", some "__init__")) fd
theorem D_Part_init (T : Tx w K mg) : ∃ fd, F_Part_init K fd := T.d.def_ 32 (d := d_Part_init) rfl
theorem mk_Part_init (T : Tx w K mg) (G : ∀ fd, F_Part_init K fd → FnOk P w K mg base C8.CX0 k (He.ma K (He.ga K "Part") "__init__") fd ["self", "number", "core", "known"] sp) : C8.Mak P w K mg base k "Part" (He.ga K "Part") sp [] := by
  obtain ⟨fd, F⟩ := D_Part_init T
  exact ⟨_, fd, ["self", "number", "core", "known"], [], He.mkr_ok (T.d.fact 78 (f := .mkr "Part") rfl), G fd F, gl_Part T, F.bindsN bi_Part_init, .nil⟩
theorem sc_Part_fitted : FnScope ["self", "target"] ["self", "target"] (defScope s_Part_fitted) := ⟨rfl, rfl, rfl, by decide +kernel, rfl, by decide +kernel, by decide +kernel⟩
theorem bi_Part_fitted : BindsBy "fitted" "Part.fitted" (defArgs s_Part_fitted) (defBody s_Part_fitted) (defScope s_Part_fitted) ["self", "target"] := fun _ _ _ _ _ _ us hl => match us, hl with | [_, _], _ => rfl
abbrev F_Part_fitted (K : PySem.W.Frag) (fd : FuncData) : Prop := FunD K "fitted" "Part.fitted" (defArgs s_Part_fitted) (defBody s_Part_fitted) (defScope s_Part_fitted) [] [] (He.fAd K ("Part", some "fitted")) fd
theorem D_Part_fitted (T : Tx w K mg) : ∃ fd, F_Part_fitted K fd := T.d.def_ 33 (d := d_Part_fitted) rfl
theorem me_Part_fitted (T : Tx w K mg) : Meth K (He.ga K "Part") "fitted" (He.ma K (He.ga K "Part") "fitted") := He.meth_ok (T.d.fact 79 (f := .meth "Part" "fitted") rfl)
theorem mk_Part_fitted (T : Tx w K mg) (G : ∀ fd, F_Part_fitted K fd → FnOk P w K mg base C8.CX0 k (He.ma K (He.ga K "Part") "fitted") fd ["self", "target"] sp) : C8.Met P w K mg base k (He.ga K "Part") "fitted" sp [] := by
  obtain ⟨fd, F⟩ := D_Part_fitted T
  exact ⟨_, fd, ["self", "target"], [], cl_Part T, me_Part_fitted T, G fd F, F.bindsN bi_Part_fitted, .nil⟩
theorem sc_Checker_init : FnScope ["self"] ["self"] (defScope s_Checker_init) := ⟨rfl, rfl, rfl, by decide +kernel, rfl, by decide +kernel, by decide +kernel⟩
theorem bi_Checker_init : BindsBy "__init__" "Checker.__init__" (defArgs s_Checker_init) (defBody s_Checker_init) (defScope s_Checker_init) ["self"] := fun _ _ _ _ _ _ us hl => match us, hl with | [_], _ => rfl
abbrev F_Checker_init (K : PySem.W.Frag) (fd : FuncData) : Prop := FunD K "__init__" "Checker.__init__" (defArgs s_Checker_init) (defBody s_Checker_init) (defScope s_Checker_init) [] [] (He.fAd K ("Checker", some "__init__")) fd
theorem D_Checker_init (T : Tx w K mg) : ∃ fd, F_Checker_init K fd := T.d.def_ 34 (d := d_Checker_init) rfl
theorem mk_Checker_init (T : Tx w K mg) (G : ∀ fd, F_Checker_init K fd → FnOk P w K mg base C8.CX0 k (He.ma K (He.ga K "Checker") "__init__") fd ["self"] sp) : C8.Mak P w K mg base k "Checker" (He.ga K "Checker") sp [] := by
  obtain ⟨fd, F⟩ := D_Checker_init T
  exact ⟨_, fd, ["self"], [], He.mkr_ok (T.d.fact 82 (f := .mkr "Checker") rfl), G fd F, gl_Checker T, F.bindsN bi_Checker_init, .nil⟩
theorem sc_Checker_part : FnScope ["self", "expression", "env", "number", "core", "known"] ["self", "expression", "env"] (defScope s_Checker_part) := ⟨rfl, rfl, rfl, by decide +kernel, rfl, by decide +kernel, by decide +kernel⟩
theorem bi_Checker_part : BindsBy "part" "Checker.part" (defArgs s_Checker_part) (defBody s_Checker_part) (defScope s_Checker_part) ["self", "expression", "env"] := fun _ _ _ _ _ _ us hl => match us, hl with | [_, _, _], _ => rfl
abbrev F_Checker_part (K : PySem.W.Frag) (fd : FuncData) : Prop := FunD K "part" "Checker.part" (defArgs s_Checker_part) (defBody s_Checker_part) (defScope s_Checker_part) [] [] (He.fAd K ("Checker", some "part")) fd
theorem D_Checker_part (T : Tx w K mg) : ∃ fd, F_Checker_part K fd := T.d.def_ 35 (d := d_Checker_part) rfl
theorem me_Checker_part (T : Tx w K mg) : Meth K (He.ga K "Checker") "part" (He.ma K (He.ga K "Checker") "part") := He.meth_ok (T.d.fact 83 (f := .meth "Checker" "part") rfl)
theorem mk_Checker_part (T : Tx w K mg) (G : ∀ fd, F_Checker_part K fd → FnOk P w K mg base C8.CX0 k (He.ma K (He.ga K "Checker") "part") fd ["self", "expression", "env"] sp) : C8.Met P w K mg base k (He.ga K "Checker") "part" sp [] := by
  obtain ⟨fd, F⟩ := D_Checker_part T
  exact ⟨_, fd, ["self", "expression", "env"], [], cl_Checker T, me_Checker_part T, G fd F, F.bindsN bi_Checker_part, .nil⟩
theorem sc_Checker_elaborated : FnScope ["self", "expression", "env", "kind", "part", "signs", "parts"] ["self", "expression", "env"] (defScope s_Checker_elaborated) := ⟨rfl, rfl, rfl, by decide +kernel, rfl, by decide +kernel, by decide +kernel⟩
theorem bi_Checker_elaborated : BindsBy "elaborated" "Checker.elaborated" (defArgs s_Checker_elaborated) (defBody s_Checker_elaborated) (defScope s_Checker_elaborated) ["self", "expression", "env"] := fun _ _ _ _ _ _ us hl => match us, hl with | [_, _, _], _ => rfl
abbrev F_Checker_elaborated (K : PySem.W.Frag) (fd : FuncData) : Prop := FunD K "elaborated" "Checker.elaborated" (defArgs s_Checker_elaborated) (defBody s_Checker_elaborated) (defScope s_Checker_elaborated) [] [] (He.fAd K ("Checker", some "elaborated")) fd
theorem D_Checker_elaborated (T : Tx w K mg) : ∃ fd, F_Checker_elaborated K fd := T.d.def_ 36 (d := d_Checker_elaborated) rfl
theorem me_Checker_elaborated (T : Tx w K mg) : Meth K (He.ga K "Checker") "elaborated" (He.ma K (He.ga K "Checker") "elaborated") := He.meth_ok (T.d.fact 84 (f := .meth "Checker" "elaborated") rfl)
theorem mk_Checker_elaborated (T : Tx w K mg) (G : ∀ fd, F_Checker_elaborated K fd → FnOk P w K mg base C8.CX0 k (He.ma K (He.ga K "Checker") "elaborated") fd ["self", "expression", "env"] sp) : C8.Met P w K mg base k (He.ga K "Checker") "elaborated" sp [] := by
  obtain ⟨fd, F⟩ := D_Checker_elaborated T
  exact ⟨_, fd, ["self", "expression", "env"], [], cl_Checker T, me_Checker_elaborated T, G fd F, F.bindsN bi_Checker_elaborated, .nil⟩
theorem sc_Checker_binder : FnScope ["self", "expression", "env", "kind", "name", "note", "body", "part", "own", "result", "known", "first", "second", "value"] ["self", "expression", "env"] (defScope s_Checker_binder) := ⟨rfl, rfl, rfl, by decide +kernel, rfl, by decide +kernel, by decide +kernel⟩
theorem bi_Checker_binder : BindsBy "binder" "Checker.binder" (defArgs s_Checker_binder) (defBody s_Checker_binder) (defScope s_Checker_binder) ["self", "expression", "env"] := fun _ _ _ _ _ _ us hl => match us, hl with | [_, _, _], _ => rfl
abbrev F_Checker_binder (K : PySem.W.Frag) (fd : FuncData) : Prop := FunD K "binder" "Checker.binder" (defArgs s_Checker_binder) (defBody s_Checker_binder) (defScope s_Checker_binder) [] [] (He.fAd K ("Checker", some "binder")) fd
theorem D_Checker_binder (T : Tx w K mg) : ∃ fd, F_Checker_binder K fd := T.d.def_ 37 (d := d_Checker_binder) rfl
theorem me_Checker_binder (T : Tx w K mg) : Meth K (He.ga K "Checker") "binder" (He.ma K (He.ga K "Checker") "binder") := He.meth_ok (T.d.fact 85 (f := .meth "Checker" "binder") rfl)
theorem mk_Checker_binder (T : Tx w K mg) (G : ∀ fd, F_Checker_binder K fd → FnOk P w K mg base C8.CX0 k (He.ma K (He.ga K "Checker") "binder") fd ["self", "expression", "env"] sp) : C8.Met P w K mg base k (He.ga K "Checker") "binder" sp [] := by
  obtain ⟨fd, F⟩ := D_Checker_binder T
  exact ⟨_, fd, ["self", "expression", "env"], [], cl_Checker T, me_Checker_binder T, G fd F, F.bindsN bi_Checker_binder, .nil⟩
theorem sc_bound : FnScope ["env", "name", "other", "known"] ["env", "name"] (defScope s_bound) := ⟨rfl, rfl, rfl, by decide +kernel, rfl, by decide +kernel, by decide +kernel⟩
theorem bi_bound : BindsBy "bound" "bound" (defArgs s_bound) (defBody s_bound) (defScope s_bound) ["env", "name"] := fun _ _ _ _ _ _ us hl => match us, hl with | [_, _], _ => rfl
abbrev F_bound (K : PySem.W.Frag) (fd : FuncData) : Prop := FunD K "bound" "bound" (defArgs s_bound) (defBody s_bound) (defScope s_bound) [] [] (He.fAd K ("bound", none)) fd
theorem D_bound (T : Tx w K mg) : ∃ fd, F_bound K fd := T.d.def_ 38 (d := d_bound) rfl
theorem mk_bound (T : Tx w K mg) (G : ∀ fd, F_bound K fd → FnOk P w K mg base C8.CX0 k (He.ga K "bound") fd ["env", "name"] sp) : C8.Cal P w K mg base k "bound" sp [] := by
  obtain ⟨fd, F⟩ := D_bound T
  exact cal_data F (gl_bound T) bi_bound (G fd F)
theorem sc_composed : FnScope ["kind", "parts", "test", "known", "core"] ["kind", "parts"] (defScope s_composed) := ⟨rfl, rfl, rfl, by decide +kernel, rfl, by decide +kernel, by decide +kernel⟩
theorem bi_composed : BindsBy "composed" "composed" (defArgs s_composed) (defBody s_composed) (defScope s_composed) ["kind", "parts"] := fun _ _ _ _ _ _ us hl => match us, hl with | [_, _], _ => rfl
abbrev F_composed (K : PySem.W.Frag) (fd : FuncData) : Prop := FunD K "composed" "composed" (defArgs s_composed) (defBody s_composed) (defScope s_composed) [] [] (He.fAd K ("composed", none)) fd
theorem D_composed (T : Tx w K mg) : ∃ fd, F_composed K fd := T.d.def_ 39 (d := d_composed) rfl
theorem mk_composed (T : Tx w K mg) (G : ∀ fd, F_composed K fd → FnOk P w K mg base C8.CX0 k (He.ga K "composed") fd ["kind", "parts"] sp) : C8.Cal P w K mg base k "composed" sp [] := by
  obtain ⟨fd, F⟩ := D_composed T
  exact cal_data F (gl_composed T) bi_composed (G fd F)
theorem sc_opened : FnScope ["part", "most"] ["part", "most"] (defScope s_opened) := ⟨rfl, rfl, rfl, by decide +kernel, rfl, by decide +kernel, by decide +kernel⟩
theorem bi_opened : BindsBy "opened" "opened" (defArgs s_opened) (defBody s_opened) (defScope s_opened) ["part", "most"] := fun _ _ _ _ _ _ us hl => match us, hl with | [_, _], _ => rfl
abbrev F_opened (K : PySem.W.Frag) (fd : FuncData) : Prop := FunD K "opened" "opened" (defArgs s_opened) (defBody s_opened) (defScope s_opened) [] [] (He.fAd K ("opened", none)) fd
theorem D_opened (T : Tx w K mg) : ∃ fd, F_opened K fd := T.d.def_ 40 (d := d_opened) rfl
theorem mk_opened (T : Tx w K mg) (G : ∀ fd, F_opened K fd → FnOk P w K mg base C8.CX0 k (He.ga K "opened") fd ["part", "most"] sp) : C8.Cal P w K mg base k "opened" sp [] := by
  obtain ⟨fd, F⟩ := D_opened T
  exact cal_data F (gl_opened T) bi_opened (G fd F)
theorem sc_called : FnScope ["function", "argument", "core", "known"] ["function", "argument"] (defScope s_called) := ⟨rfl, rfl, rfl, by decide +kernel, rfl, by decide +kernel, by decide +kernel⟩
theorem bi_called : BindsBy "called" "called" (defArgs s_called) (defBody s_called) (defScope s_called) ["function", "argument"] := fun _ _ _ _ _ _ us hl => match us, hl with | [_, _], _ => rfl
abbrev F_called (K : PySem.W.Frag) (fd : FuncData) : Prop := FunD K "called" "called" (defArgs s_called) (defBody s_called) (defScope s_called) [] [] (He.fAd K ("called", none)) fd
theorem D_called (T : Tx w K mg) : ∃ fd, F_called K fd := T.d.def_ 41 (d := d_called) rfl
theorem mk_called (T : Tx w K mg) (G : ∀ fd, F_called K fd → FnOk P w K mg base C8.CX0 k (He.ga K "called") fd ["function", "argument"] sp) : C8.Cal P w K mg base k "called" sp [] := by
  obtain ⟨fd, F⟩ := D_called T
  exact cal_data F (gl_called T) bi_called (G fd F)
theorem sc_simple : FnScope ["expression", "parts", "kind", "core", "known"] ["expression", "parts"] (defScope s_simple) := ⟨rfl, rfl, rfl, by decide +kernel, rfl, by decide +kernel, by decide +kernel⟩
theorem bi_simple : BindsBy "simple" "simple" (defArgs s_simple) (defBody s_simple) (defScope s_simple) ["expression", "parts"] := fun _ _ _ _ _ _ us hl => match us, hl with | [_, _], _ => rfl
abbrev F_simple (K : PySem.W.Frag) (fd : FuncData) : Prop := FunD K "simple" "simple" (defArgs s_simple) (defBody s_simple) (defScope s_simple) [] [] (He.fAd K ("simple", none)) fd
theorem D_simple (T : Tx w K mg) : ∃ fd, F_simple K fd := T.d.def_ 42 (d := d_simple) rfl
theorem mk_simple (T : Tx w K mg) (G : ∀ fd, F_simple K fd → FnOk P w K mg base C8.CX0 k (He.ga K "simple") fd ["expression", "parts"] sp) : C8.Cal P w K mg base k "simple" sp [] := by
  obtain ⟨fd, F⟩ := D_simple T
  exact cal_data F (gl_simple T) bi_simple (G fd F)
theorem sc_elaborate : FnScope ["expression", "part"] ["expression"] (defScope s_elaborate) := ⟨rfl, rfl, rfl, by decide +kernel, rfl, by decide +kernel, by decide +kernel⟩
theorem bi_elaborate : BindsBy "elaborate" "elaborate" (defArgs s_elaborate) (defBody s_elaborate) (defScope s_elaborate) ["expression"] := fun _ _ _ _ _ _ us hl => match us, hl with | [_], _ => rfl
abbrev F_elaborate (K : PySem.W.Frag) (fd : FuncData) : Prop := FunD K "elaborate" "elaborate" (defArgs s_elaborate) (defBody s_elaborate) (defScope s_elaborate) [] [] (He.fAd K ("elaborate", none)) fd
theorem D_elaborate (T : Tx w K mg) : ∃ fd, F_elaborate K fd := T.d.def_ 43 (d := d_elaborate) rfl
theorem mk_elaborate (T : Tx w K mg) (G : ∀ fd, F_elaborate K fd → FnOk P w K mg base C8.CX0 k (He.ga K "elaborate") fd ["expression"] sp) : C8.Cal P w K mg base k "elaborate" sp [] := by
  obtain ⟨fd, F⟩ := D_elaborate T
  exact cal_data F (gl_elaborate T) bi_elaborate (G fd F)
theorem sc_law_state : FnScope ["_law_script", "_law_cells", "_law_cell"] ["_law_script"] (defScope s_law_state) := ⟨rfl, rfl, rfl, by decide +kernel, rfl, by decide +kernel, by decide +kernel⟩
theorem bi_law_state : BindsBy "_law_state" "_law_state" (defArgs s_law_state) (defBody s_law_state) (defScope s_law_state) ["_law_script"] := fun _ _ _ _ _ _ us hl => match us, hl with | [_], _ => rfl
abbrev F_law_state (K : PySem.W.Frag) (fd : FuncData) : Prop := FunD K "_law_state" "_law_state" (defArgs s_law_state) (defBody s_law_state) (defScope s_law_state) [] [] (He.fAd K ("_law_state", none)) fd
theorem D_law_state (T : Tx w K mg) : ∃ fd, F_law_state K fd := T.d.def_ 44 (d := d_law_state) rfl
theorem mk_law_state (T : Tx w K mg) (G : ∀ fd, F_law_state K fd → FnOk P w K mg base C8.CX0 k (He.ga K "_law_state") fd ["_law_script"] sp) : C8.Cal P w K mg base k "_law_state" sp [] := by
  obtain ⟨fd, F⟩ := D_law_state T
  exact cal_data F (gl_law_state T) bi_law_state (G fd F)
theorem sc_law_take : FnScope ["_law_state_here", "_law_most", "_law_cells", "_law_at", "_law_cell", "_law_mixed"] ["_law_state_here", "_law_most"] (defScope s_law_take) := ⟨rfl, rfl, rfl, by decide +kernel, rfl, by decide +kernel, by decide +kernel⟩
theorem bi_law_take : BindsBy "_law_take" "_law_take" (defArgs s_law_take) (defBody s_law_take) (defScope s_law_take) ["_law_state_here", "_law_most"] := fun _ _ _ _ _ _ us hl => match us, hl with | [_, _], _ => rfl
abbrev F_law_take (K : PySem.W.Frag) (fd : FuncData) : Prop := FunD K "_law_take" "_law_take" (defArgs s_law_take) (defBody s_law_take) (defScope s_law_take) [] [] (He.fAd K ("_law_take", none)) fd
theorem D_law_take (T : Tx w K mg) : ∃ fd, F_law_take K fd := T.d.def_ 45 (d := d_law_take) rfl
theorem mk_law_take (T : Tx w K mg) (G : ∀ fd, F_law_take K fd → FnOk P w K mg base C8.CX0 k (He.ga K "_law_take") fd ["_law_state_here", "_law_most"] sp) : C8.Cal P w K mg base k "_law_take" sp [] := by
  obtain ⟨fd, F⟩ := D_law_take T
  exact cal_data F (gl_law_take T) bi_law_take (G fd F)
theorem sc_law_type : FnScope ["_law_state_here", "_law_depth", "_law_kind"] ["_law_state_here", "_law_depth"] (defScope s_law_type) := ⟨rfl, rfl, rfl, by decide +kernel, rfl, by decide +kernel, by decide +kernel⟩
theorem bi_law_type : BindsBy "_law_type" "_law_type" (defArgs s_law_type) (defBody s_law_type) (defScope s_law_type) ["_law_state_here", "_law_depth"] := fun _ _ _ _ _ _ us hl => match us, hl with | [_, _], _ => rfl
abbrev F_law_type (K : PySem.W.Frag) (fd : FuncData) : Prop := FunD K "_law_type" "_law_type" (defArgs s_law_type) (defBody s_law_type) (defScope s_law_type) [] [] (He.fAd K ("_law_type", none)) fd
theorem D_law_type (T : Tx w K mg) : ∃ fd, F_law_type K fd := T.d.def_ 46 (d := d_law_type) rfl
theorem mk_law_type (T : Tx w K mg) (G : ∀ fd, F_law_type K fd → FnOk P w K mg base C8.CX0 k (He.ga K "_law_type") fd ["_law_state_here", "_law_depth"] sp) : C8.Cal P w K mg base k "_law_type" sp [] := by
  obtain ⟨fd, F⟩ := D_law_type T
  exact cal_data F (gl_law_type T) bi_law_type (G fd F)
theorem sc_law_looser : FnScope ["_law_state_here", "_law_one"] ["_law_state_here", "_law_one"] (defScope s_law_looser) := ⟨rfl, rfl, rfl, by decide +kernel, rfl, by decide +kernel, by decide +kernel⟩
theorem bi_law_looser : BindsBy "_law_looser" "_law_looser" (defArgs s_law_looser) (defBody s_law_looser) (defScope s_law_looser) ["_law_state_here", "_law_one"] := fun _ _ _ _ _ _ us hl => match us, hl with | [_, _], _ => rfl
abbrev F_law_looser (K : PySem.W.Frag) (fd : FuncData) : Prop := FunD K "_law_looser" "_law_looser" (defArgs s_law_looser) (defBody s_law_looser) (defScope s_law_looser) [] [] (He.fAd K ("_law_looser", none)) fd
theorem D_law_looser (T : Tx w K mg) : ∃ fd, F_law_looser K fd := T.d.def_ 47 (d := d_law_looser) rfl
theorem mk_law_looser (T : Tx w K mg) (G : ∀ fd, F_law_looser K fd → FnOk P w K mg base C8.CX0 k (He.ga K "_law_looser") fd ["_law_state_here", "_law_one"] sp) : C8.Cal P w K mg base k "_law_looser" sp [] := by
  obtain ⟨fd, F⟩ := D_law_looser T
  exact cal_data F (gl_law_looser T) bi_law_looser (G fd F)
theorem sc_law_constant : FnScope ["_law_state_here", "_law_wanted", "_law_names"] ["_law_state_here", "_law_wanted", "_law_names"] (defScope s_law_constant) := ⟨rfl, rfl, rfl, by decide +kernel, rfl, by decide +kernel, by decide +kernel⟩
theorem bi_law_constant : BindsBy "_law_constant" "_law_constant" (defArgs s_law_constant) (defBody s_law_constant) (defScope s_law_constant) ["_law_state_here", "_law_wanted", "_law_names"] := fun _ _ _ _ _ _ us hl => match us, hl with | [_, _, _], _ => rfl
abbrev F_law_constant (K : PySem.W.Frag) (fd : FuncData) : Prop := FunD K "_law_constant" "_law_constant" (defArgs s_law_constant) (defBody s_law_constant) (defScope s_law_constant) [] [] (He.fAd K ("_law_constant", none)) fd
theorem D_law_constant (T : Tx w K mg) : ∃ fd, F_law_constant K fd := T.d.def_ 48 (d := d_law_constant) rfl
theorem mk_law_constant (T : Tx w K mg) (G : ∀ fd, F_law_constant K fd → FnOk P w K mg base C8.CX0 k (He.ga K "_law_constant") fd ["_law_state_here", "_law_wanted", "_law_names"] sp) : C8.Cal P w K mg base k "_law_constant" sp [] := by
  obtain ⟨fd, F⟩ := D_law_constant T
  exact cal_data F (gl_law_constant T) bi_law_constant (G fd F)
theorem sc_law_detour : FnScope ["_law_state_here", "_law_tree", "_law_wanted"] ["_law_state_here", "_law_tree", "_law_wanted"] (defScope s_law_detour) := ⟨rfl, rfl, rfl, by decide +kernel, rfl, by decide +kernel, by decide +kernel⟩
theorem bi_law_detour : BindsBy "_law_detour" "_law_detour" (defArgs s_law_detour) (defBody s_law_detour) (defScope s_law_detour) ["_law_state_here", "_law_tree", "_law_wanted"] := fun _ _ _ _ _ _ us hl => match us, hl with | [_, _, _], _ => rfl
abbrev F_law_detour (K : PySem.W.Frag) (fd : FuncData) : Prop := FunD K "_law_detour" "_law_detour" (defArgs s_law_detour) (defBody s_law_detour) (defScope s_law_detour) [] [] (He.fAd K ("_law_detour", none)) fd
theorem D_law_detour (T : Tx w K mg) : ∃ fd, F_law_detour K fd := T.d.def_ 49 (d := d_law_detour) rfl
theorem mk_law_detour (T : Tx w K mg) (G : ∀ fd, F_law_detour K fd → FnOk P w K mg base C8.CX0 k (He.ga K "_law_detour") fd ["_law_state_here", "_law_tree", "_law_wanted"] sp) : C8.Cal P w K mg base k "_law_detour" sp [] := by
  obtain ⟨fd, F⟩ := D_law_detour T
  exact cal_data F (gl_law_detour T) bi_law_detour (G fd F)
theorem sc_law_body : FnScope ["_law_state_here", "_law_again", "_law_last", "_law_wanted"] ["_law_state_here", "_law_again", "_law_last", "_law_wanted"] (defScope s_law_body) := ⟨rfl, rfl, rfl, by decide +kernel, rfl, by decide +kernel, by decide +kernel⟩
theorem bi_law_body : BindsBy "_law_body" "_law_body" (defArgs s_law_body) (defBody s_law_body) (defScope s_law_body) ["_law_state_here", "_law_again", "_law_last", "_law_wanted"] := fun _ _ _ _ _ _ us hl => match us, hl with | [_, _, _, _], _ => rfl
abbrev F_law_body (K : PySem.W.Frag) (fd : FuncData) : Prop := FunD K "_law_body" "_law_body" (defArgs s_law_body) (defBody s_law_body) (defScope s_law_body) [] [] (He.fAd K ("_law_body", none)) fd
theorem D_law_body (T : Tx w K mg) : ∃ fd, F_law_body K fd := T.d.def_ 50 (d := d_law_body) rfl
theorem mk_law_body (T : Tx w K mg) (G : ∀ fd, F_law_body K fd → FnOk P w K mg base C8.CX0 k (He.ga K "_law_body") fd ["_law_state_here", "_law_again", "_law_last", "_law_wanted"] sp) : C8.Cal P w K mg base k "_law_body" sp [] := by
  obtain ⟨fd, F⟩ := D_law_body T
  exact cal_data F (gl_law_body T) bi_law_body (G fd F)
theorem sc_law_loop : FnScope ["_law_state_here", "_law_wanted", "_law_last", "_law_note", "_law_start", "_law_one", "_law_two", "_law_inner"] ["_law_state_here", "_law_wanted", "_law_last"] (defScope s_law_loop) := ⟨rfl, rfl, rfl, by decide +kernel, rfl, by decide +kernel, by decide +kernel⟩
theorem bi_law_loop : BindsBy "_law_loop" "_law_loop" (defArgs s_law_loop) (defBody s_law_loop) (defScope s_law_loop) ["_law_state_here", "_law_wanted", "_law_last"] := fun _ _ _ _ _ _ us hl => match us, hl with | [_, _, _], _ => rfl
abbrev F_law_loop (K : PySem.W.Frag) (fd : FuncData) : Prop := FunD K "_law_loop" "_law_loop" (defArgs s_law_loop) (defBody s_law_loop) (defScope s_law_loop) [] [] (He.fAd K ("_law_loop", none)) fd
theorem D_law_loop (T : Tx w K mg) : ∃ fd, F_law_loop K fd := T.d.def_ 51 (d := d_law_loop) rfl
theorem mk_law_loop (T : Tx w K mg) (G : ∀ fd, F_law_loop K fd → FnOk P w K mg base C8.CX0 k (He.ga K "_law_loop") fd ["_law_state_here", "_law_wanted", "_law_last"] sp) : C8.Cal P w K mg base k "_law_loop" sp [] := by
  obtain ⟨fd, F⟩ := D_law_loop T
  exact cal_data F (gl_law_loop T) bi_law_loop (G fd F)
theorem sc_law_shape : FnScope ["_law_wanted", "_law_last"] ["_law_wanted", "_law_last"] (defScope s_law_shape) := ⟨rfl, rfl, rfl, by decide +kernel, rfl, by decide +kernel, by decide +kernel⟩
theorem bi_law_shape : BindsBy "_law_shape" "_law_shape" (defArgs s_law_shape) (defBody s_law_shape) (defScope s_law_shape) ["_law_wanted", "_law_last"] := fun _ _ _ _ _ _ us hl => match us, hl with | [_, _], _ => rfl
abbrev F_law_shape (K : PySem.W.Frag) (fd : FuncData) : Prop := FunD K "_law_shape" "_law_shape" (defArgs s_law_shape) (defBody s_law_shape) (defScope s_law_shape) [] [] (He.fAd K ("_law_shape", none)) fd
theorem D_law_shape (T : Tx w K mg) : ∃ fd, F_law_shape K fd := T.d.def_ 52 (d := d_law_shape) rfl
theorem mk_law_shape (T : Tx w K mg) (G : ∀ fd, F_law_shape K fd → FnOk P w K mg base C8.CX0 k (He.ga K "_law_shape") fd ["_law_wanted", "_law_last"] sp) : C8.Cal P w K mg base k "_law_shape" sp [] := by
  obtain ⟨fd, F⟩ := D_law_shape T
  exact cal_data F (gl_law_shape T) bi_law_shape (G fd F)
theorem sc_law : FnScope ["_law_script", "_law_state_here", "_law_wanted", "_law_last", "_law_loop_here", "_law_rounds", "_law_due", "_law_measures", "_law_count", "_law_core", "_law_told"] ["_law_script"] (defScope s_law) := ⟨rfl, rfl, rfl, by decide +kernel, rfl, by decide +kernel, by decide +kernel⟩
theorem bi_law : BindsBy "law" "law" (defArgs s_law) (defBody s_law) (defScope s_law) ["_law_script"] := fun _ _ _ _ _ _ us hl => match us, hl with | [_], _ => rfl
abbrev F_law (K : PySem.W.Frag) (fd : FuncData) : Prop := FunD K "law" "law" (defArgs s_law) (defBody s_law) (defScope s_law) [] [] (He.fAd K ("law", none)) fd
theorem D_law (T : Tx w K mg) : ∃ fd, F_law K fd := T.d.def_ 53 (d := d_law) rfl
theorem mk_law (T : Tx w K mg) (G : ∀ fd, F_law K fd → FnOk P w K mg base C8.CX0 k (He.ga K "law") fd ["_law_script"] sp) : C8.Cal P w K mg base k "law" sp [] := by
  obtain ⟨fd, F⟩ := D_law T
  exact cal_data F (gl_law T) bi_law (G fd F)
end
end Hn
end

/- HnRun -/
section
set_option Elab.async false
set_option linter.all false
set_option maxRecDepth 100000
set_option maxHeartbeats 0
namespace Hn
open PySem PySem.Spec PyProof.Rows L2
abbrev R : PySem.W.OpenRow := PySem.W.OpenLaw.row PySem.Challenge.rw_halfnoted_k29_loops_in_constant_space
abbrev hk : PySem.W.Hook := He.hookX 5 fa fn tab [] exK
def ob (s : PySem.W.SharedT) : He.AlX := He.obsX 5 fa fn tab [] exK (HandSHeadRun.getT s)
theorem ob_eq (s : PySem.W.SharedT) : ob s = hk.obs s.abs := He.obsX_eq (HandSHeadRun.getT_eq s)
section
open HandSHeadRun PySem.W
theorem runF (w : World) : HandSHeadRun.RunEq R (PySem.W.view R.prog [62]) hk ob 6000 loose (w.withFollow "special-get-raises" false) := by
  intro os
  kernel_rfl
theorem runT (w : World) : HandSHeadRun.RunEq R (PySem.W.view R.prog [62]) hk ob 6000 loose (w.withFollow "special-get-raises" true) := by
  intro os
  kernel_rfl
theorem run (w : World) : HandSHeadRun.RunEq R (PySem.W.view R.prog [62]) hk ob 6000 loose w :=
  byRow2 (P := fun w => HandSHeadRun.RunEq R (PySem.W.view R.prog [62]) hk ob 6000 loose w) "special-get-raises" runF runT w
end
end Hn
end

/- HnP1 -/
section
set_option linter.all false
set_option maxRecDepth 100000
/-! Halfnoted, the plain law: checks between types of one chain. -/
namespace Hn.Pl
/-! ### checks without their labels -/
def er : Ck → Ck
  | .any => .any | .same g => .same g | .fn s t => .fn (er s) (er t) | .pr s t => .pr (er s) (er t) | .bx s t => .bx (er s) (er t) | .give g => .give (er g) | .take g _ _ i => .take g 0 0 (er i)
theorem size_er : ∀ c, size (er c) = size c
  | .any => rfl | .same _ => rfl
  | .fn s t => by simp only [er, size, size_er s, size_er t]
  | .pr s t => by simp only [er, size, size_er s, size_er t]
  | .bx s t => by simp only [er, size, size_er s, size_er t]
  | .give g => by simp only [er, size, size_er g]
  | .take _ _ _ i => by simp only [er, size, size_er i]
theorem dp_er : ∀ c, dp (er c) = dp c
  | .any => rfl | .same _ => rfl
  | .fn s t => by simp only [er, dp, dp_er s, dp_er t]
  | .pr s t => by simp only [er, dp, dp_er s, dp_er t]
  | .bx s t => by simp only [er, dp, dp_er s, dp_er t]
  | .give g => by simp only [er, dp, dp_er g]
  | .take _ _ _ i => by simp only [er, dp, dp_er i]
theorem pg_er (c : Ck) : pg (er c) = pg c := by cases c <;> rfl
/-! ### the chain -/
def a1 : Ty → Ty
  | .fn a _ => a | .pr a _ => a | .bx a => a | _ => .any
def a2 : Ty → Ty
  | .fn _ b => b | .pr _ b => b | _ => .any
theorem le_any {A : Ty} : le .any A := by cases A <;> trivial
theorem le_refl : ∀ A : Ty, le A A
  | .any => trivial | .int => trivial | .bool => trivial | .unit => trivial | .fn a b => ⟨le_refl a, le_refl b⟩ | .pr a b => ⟨le_refl a, le_refl b⟩ | .bx a => le_refl a
theorem any_le {A : Ty} (h : le A .any) : A = .any := by cases A <;> first | rfl | exact h.elim
/-- at most as exact, told by the head -/
theorem le_int {A : Ty} (h : le A .int) : A = .any ∨ A = .int := by cases A <;> first | exact .inl rfl | exact .inr rfl | exact h.elim
theorem le_bool {A : Ty} (h : le A .bool) : A = .any ∨ A = .bool := by cases A <;> first | exact .inl rfl | exact .inr rfl | exact h.elim
theorem le_unit {A : Ty} (h : le A .unit) : A = .any ∨ A = .unit := by cases A <;> first | exact .inl rfl | exact .inr rfl | exact h.elim
theorem le_fn {A p q : Ty} (h : le A (.fn p q)) : A = .any ∨ ∃ a b, A = .fn a b ∧ le a p ∧ le b q := by cases A <;> first | exact .inl rfl | exact .inr ⟨_, _, rfl, h.1, h.2⟩ | exact h.elim
theorem le_pr {A p q : Ty} (h : le A (.pr p q)) : A = .any ∨ ∃ a b, A = .pr a b ∧ le a p ∧ le b q := by cases A <;> first | exact .inl rfl | exact .inr ⟨_, _, rfl, h.1, h.2⟩ | exact h.elim
theorem le_bx {A p : Ty} (h : le A (.bx p)) : A = .any ∨ ∃ a, A = .bx a ∧ le a p := by cases A <;> first | exact .inl rfl | exact .inr ⟨_, rfl, h⟩ | exact h.elim
theorem le_ht : ∀ {A B : Ty}, le A B → ht A ≤ ht B
  | A, .any, h => by rw [any_le h]; exact Nat.le_refl _
  | A, .int, h => by rcases le_int h with rfl | rfl <;> exact Nat.le_refl _
  | A, .bool, h => by rcases le_bool h with rfl | rfl <;> exact Nat.le_refl _
  | A, .unit, h => by rcases le_unit h with rfl | rfl <;> exact Nat.le_refl _
  | A, .fn p q, h => by
    rcases le_fn h with rfl | ⟨a, b, rfl, h1, h2⟩
    · exact Nat.zero_le _
    · have := le_ht h1; have := le_ht h2; show max (ht a) (ht b) + 1 ≤ max (ht p) (ht q) + 1; omega
  | A, .pr p q, h => by
    rcases le_pr h with rfl | ⟨a, b, rfl, h1, h2⟩
    · exact Nat.zero_le _
    · have := le_ht h1; have := le_ht h2; show max (ht a) (ht b) + 1 ≤ max (ht p) (ht q) + 1; omega
  | A, .bx p, h => by
    rcases le_bx h with rfl | ⟨a, rfl, h1⟩
    · exact Nat.zero_le _
    · have := le_ht h1; show ht a + 1 ≤ ht p + 1; omega
theorem cons_any_r (A : Ty) : cons A .any = true := by cases A <;> rfl
theorem cons_any_l (A : Ty) : cons .any A = true := by cases A <;> rfl
theorem le_cons : ∀ {A B : Ty}, le A B → cons A B = true ∧ cons B A = true
  | A, .any, h => ⟨cons_any_r _, cons_any_l _⟩
  | A, .int, h => by rcases le_int h with rfl | rfl <;> exact ⟨rfl, rfl⟩
  | A, .bool, h => by rcases le_bool h with rfl | rfl <;> exact ⟨rfl, rfl⟩
  | A, .unit, h => by rcases le_unit h with rfl | rfl <;> exact ⟨rfl, rfl⟩
  | A, .fn p q, h => by
    rcases le_fn h with rfl | ⟨a, b, rfl, h1, h2⟩
    · exact ⟨cons_any_l _, cons_any_r _⟩
    · have g1 := le_cons h1; have g2 := le_cons h2
      exact ⟨by show (cons a p && cons b q) = true; rw [g1.1, g2.1] <;> rfl, by show (cons p a && cons q b) = true; rw [g1.2, g2.2] <;> rfl⟩
  | A, .pr p q, h => by
    rcases le_pr h with rfl | ⟨a, b, rfl, h1, h2⟩
    · exact ⟨cons_any_l _, cons_any_r _⟩
    · have g1 := le_cons h1; have g2 := le_cons h2
      exact ⟨by show (cons a p && cons b q) = true; rw [g1.1, g2.1] <;> rfl, by show (cons p a && cons q b) = true; rw [g1.2, g2.2] <;> rfl⟩
  | A, .bx p, h => by
    rcases le_bx h with rfl | ⟨a, rfl, h1⟩
    · exact ⟨cons_any_l _, cons_any_r _⟩
    · have g1 := le_cons h1
      exact ⟨g1.1, g1.2⟩
/-! ### threesomes -/
def tk (A : Ty) (g : Gd) (c : Ck) : Ck := if A = .any then .take g 0 0 c else c
def gv (B : Ty) (c : Ck) : Ck := if B = .any then .give c else c
def T3 : Ty → Ty → Ty → Ck
  | .any, _, _ => .any
  | .int, A, B => tk A .int (gv B (.same .int))
  | .bool, A, B => tk A .bool (gv B (.same .bool))
  | .unit, A, B => tk A .unit (gv B (.same .unit))
  | .fn p q, A, B => tk A .fn (gv B (.fn (T3 p (a1 B) (a1 A)) (T3 q (a2 A) (a2 B))))
  | .pr p q, A, B => tk A .pr (gv B (.pr (T3 p (a1 A) (a1 B)) (T3 q (a2 A) (a2 B))))
  | .bx p, A, B => tk A .bx (gv B (.bx (T3 p (a1 B) (a1 A)) (T3 p (a1 A) (a1 B))))
/-- what T3 is without take and give -/
def T0 : Ty → Ty → Ty → Ck
  | .any, _, _ => .any
  | .int, A, B => .same .int
  | .bool, A, B => .same .bool
  | .unit, A, B => .same .unit
  | .fn p q, A, B => .fn (T3 p (a1 B) (a1 A)) (T3 q (a2 A) (a2 B))
  | .pr p q, A, B => .pr (T3 p (a1 A) (a1 B)) (T3 q (a2 A) (a2 B))
  | .bx p, A, B => .bx (T3 p (a1 B) (a1 A)) (T3 p (a1 A) (a1 B))
theorem T3_eq {P A B : Ty} (h : P ≠ .any) : T3 P A B = tk A (gd P) (gv B (T0 P A B)) := by
  cases P <;> first | exact absurd rfl h | rfl
theorem dp_tk (A : Ty) (g : Gd) (c : Ck) : dp (tk A g c) ≤ dp c + 1 := by
  unfold tk; split
  · exact Nat.le_refl _
  · omega
theorem dp_gv (A : Ty) (c : Ck) : dp (gv A c) ≤ dp c + 1 := by
  unfold gv; split
  · exact Nat.le_refl _
  · omega
theorem dp_T3 : ∀ P A B : Ty, dp (T3 P A B) ≤ 3 * ht P + 3
  | .any, _, _ => by show 1 ≤ 3; omega
  | .int, A, B => by have := dp_tk A .int (gv B (.same .int)); have := dp_gv B (.same .int); have : dp (.same .int) = 1 := rfl; show dp (tk _ _ _) ≤ 3; omega
  | .bool, A, B => by have := dp_tk A .bool (gv B (.same .bool)); have := dp_gv B (.same .bool); have : dp (.same .bool) = 1 := rfl; show dp (tk _ _ _) ≤ 3; omega
  | .unit, A, B => by have := dp_tk A .unit (gv B (.same .unit)); have := dp_gv B (.same .unit); have : dp (.same .unit) = 1 := rfl; show dp (tk _ _ _) ≤ 3; omega
  | .fn p q, A, B => by
    have h1 := dp_T3 p (a1 B) (a1 A)
    have h2 := dp_T3 q (a2 A) (a2 B)
    have h3 := dp_tk A .fn (gv B (.fn (T3 p (a1 B) (a1 A)) (T3 q (a2 A) (a2 B))))
    have h4 := dp_gv B (.fn (T3 p (a1 B) (a1 A)) (T3 q (a2 A) (a2 B)))
    have h5 : dp (.fn (T3 p (a1 B) (a1 A)) (T3 q (a2 A) (a2 B))) = max (dp (T3 p (a1 B) (a1 A))) (dp (T3 q (a2 A) (a2 B))) + 1 := rfl
    show dp (tk _ _ _) ≤ 3 * (max (ht p) (ht q) + 1) + 3; omega
  | .pr p q, A, B => by
    have h1 := dp_T3 p (a1 A) (a1 B)
    have h2 := dp_T3 q (a2 A) (a2 B)
    have h3 := dp_tk A .pr (gv B (.pr (T3 p (a1 A) (a1 B)) (T3 q (a2 A) (a2 B))))
    have h4 := dp_gv B (.pr (T3 p (a1 A) (a1 B)) (T3 q (a2 A) (a2 B)))
    have h5 : dp (.pr (T3 p (a1 A) (a1 B)) (T3 q (a2 A) (a2 B))) = max (dp (T3 p (a1 A) (a1 B))) (dp (T3 q (a2 A) (a2 B))) + 1 := rfl
    show dp (tk _ _ _) ≤ 3 * (max (ht p) (ht q) + 1) + 3; omega
  | .bx p, A, B => by
    have h1 := dp_T3 p (a1 B) (a1 A)
    have h2 := dp_T3 p (a1 A) (a1 B)
    have h3 := dp_tk A .bx (gv B (.bx (T3 p (a1 B) (a1 A)) (T3 p (a1 A) (a1 B))))
    have h4 := dp_gv B (.bx (T3 p (a1 B) (a1 A)) (T3 p (a1 A) (a1 B)))
    have h5 : dp (.bx (T3 p (a1 B) (a1 A)) (T3 p (a1 A) (a1 B))) = max (dp (T3 p (a1 B) (a1 A))) (dp (T3 p (a1 A) (a1 B))) + 1 := rfl
    show dp (tk _ _ _) ≤ 3 * (ht p + 1) + 3; omega
/-! ### check_of makes them -/
def Sup (X Y R : Ty) : Prop := (R = X ∧ le Y X) ∨ (R = Y ∧ le X Y)
theorem Sup.symm {X Y R : Ty} (h : Sup X Y R) : Sup Y X R := h.elim (fun z => .inr z) fun z => .inl z
theorem sup_any_l {X : Ty} : Sup .any X X := .inr ⟨rfl, le_any⟩
theorem sup_any_r {X : Ty} : Sup X .any X := .inl ⟨rfl, le_any⟩
end Hn.Pl
end

/- HnP2 -/
section
set_option linter.all false
set_option maxRecDepth 100000
namespace Hn.Pl
theorem le_gty {R : Ty} : le (gty (gd R)) R ∨ R = .any := by cases R <;> first | exact .inr rfl | exact .inl trivial | exact .inl ⟨le_any, le_any⟩ | exact .inl le_any
theorem T0_gr {R X : Ty} (h : R ≠ .any) : T0 R X (gty (gd R)) = T0 R X .any := by cases R <;> first | exact absurd rfl h | rfl
theorem T0_gl {R Y : Ty} (h : R ≠ .any) : T0 R (gty (gd R)) Y = T0 R .any Y := by cases R <;> first | exact absurd rfl h | rfl
theorem gty_ne (g : Gd) : gty g ≠ .any := by cases g <;> intro h <;> cases h
theorem sup_ne {X Y R : Ty} (h : Sup X Y R) (hx : X ≠ .any) : R ≠ .any := by
  rcases h with ⟨rfl, _⟩ | ⟨rfl, h⟩
  · exact hx
  · intro e; subst e; exact hx (any_le h)
theorem sup_gd {X Y R : Ty} (h : Sup X Y R) (hx : X ≠ .any) : gd X = gd R := by
  rcases h with ⟨rfl, _⟩ | ⟨rfl, h⟩
  · rfl
  · cases X <;> cases R <;> first | rfl | exact absurd rfl hx | exact h.elim
theorem sup_fn {p q r s R : Ty} (h : Sup (.fn p q) (.fn r s) R) : ∃ x y, R = .fn x y ∧ Sup p r x ∧ Sup q s y := by
  rcases h with ⟨rfl, h⟩ | ⟨rfl, h⟩
  · exact ⟨p, q, rfl, .inl ⟨rfl, h.1⟩, .inl ⟨rfl, h.2⟩⟩
  · exact ⟨r, s, rfl, .inr ⟨rfl, h.1⟩, .inr ⟨rfl, h.2⟩⟩
theorem sup_pr {p q r s R : Ty} (h : Sup (.pr p q) (.pr r s) R) : ∃ x y, R = .pr x y ∧ Sup p r x ∧ Sup q s y := by
  rcases h with ⟨rfl, h⟩ | ⟨rfl, h⟩
  · exact ⟨p, q, rfl, .inl ⟨rfl, h.1⟩, .inl ⟨rfl, h.2⟩⟩
  · exact ⟨r, s, rfl, .inr ⟨rfl, h.1⟩, .inr ⟨rfl, h.2⟩⟩
theorem sup_bx {p r R : Ty} (h : Sup (.bx p) (.bx r) R) : ∃ x, R = .bx x ∧ Sup p r x := by
  rcases h with ⟨rfl, h⟩ | ⟨rfl, h⟩
  · exact ⟨p, rfl, .inl ⟨rfl, h⟩⟩
  · exact ⟨r, rfl, .inr ⟨rfl, h⟩⟩
def ChkAt (R : Ty) : Prop := ∀ f X Y n s, Sup X Y R → 2 * ht R + 2 ≤ f → ∃ c, chkF f X Y n s = some c ∧ er c = T3 R X Y
theorem chk_ne {f : Nat} {X Y : Ty} {n s : Int} : X ≠ .any → Y ≠ .any → chkF (f + 1) X Y n s = (match X, Y with
      | .int, .int => some (.same .int)
      | .bool, .bool => some (.same .bool)
      | .unit, .unit => some (.same .unit)
      | A, B => compC (chkF f) A B n s) := fun hx hy => by
  show (if X = .any ∧ Y = .any then _ else if Y = .any then _ else if X = .any then _ else _) = _
  rw [if_neg (fun z => hx z.1), if_neg hy, if_neg hx]
  all_goals (cases X <;> cases Y <;> rfl)
theorem chk0 {R : Ty} (h1 : ∀ r, ht r < ht R → ChkAt r) {f : Nat} {X Y : Ty} {n s : Int} (hs : Sup X Y R) (hx : X ≠ .any) (hy : Y ≠ .any) (hf : 2 * ht R + 1 ≤ f) : ∃ c, chkF f X Y n s = some c ∧ er c = T0 R X Y := by
  obtain ⟨f, rfl⟩ : ∃ g, f = g + 1 := ⟨f - 1, by omega⟩
  rw [chk_ne hx hy]
  have gX := sup_gd hs hx
  have gY := sup_gd hs.symm hy
  cases X <;> cases Y <;> first | exact absurd rfl hx | exact absurd rfl hy | (exfalso; rw [← gX] at gY; cases gY; done) | skip
  · cases R <;> first | exact ⟨_, rfl, rfl⟩ | (rcases hs with ⟨e, _⟩ | ⟨e, _⟩ <;> cases e)
  · cases R <;> first | exact ⟨_, rfl, rfl⟩ | (rcases hs with ⟨e, _⟩ | ⟨e, _⟩ <;> cases e)
  · cases R <;> first | exact ⟨_, rfl, rfl⟩ | (rcases hs with ⟨e, _⟩ | ⟨e, _⟩ <;> cases e)
  · obtain ⟨x, y, rfl, s1, s2⟩ := sup_fn hs
    have hR : ht (.fn x y) = max (ht x) (ht y) + 1 := rfl
    obtain ⟨c1, e1, e2⟩ := h1 x (by omega) f _ _ n (1 - s) s1.symm (by omega)
    obtain ⟨c2, e3, e4⟩ := h1 y (by omega) f _ _ n s s2 (by omega)
    refine ⟨.fn c1 c2, ?_, ?_⟩
    · show (chkF f _ _ n (1 - s)).bind _ = _
      rw [e1]; show (chkF f _ _ n s).map _ = _; rw [e3] <;> rfl
    · show Ck.fn (er c1) (er c2) = _; rw [e2, e4] <;> rfl
  · obtain ⟨x, y, rfl, s1, s2⟩ := sup_pr hs
    have hR : ht (.pr x y) = max (ht x) (ht y) + 1 := rfl
    obtain ⟨c1, e1, e2⟩ := h1 x (by omega) f _ _ n s s1 (by omega)
    obtain ⟨c2, e3, e4⟩ := h1 y (by omega) f _ _ n s s2 (by omega)
    refine ⟨.pr c1 c2, ?_, ?_⟩
    · show (chkF f _ _ n s).bind _ = _
      rw [e1]; show (chkF f _ _ n s).map _ = _; rw [e3] <;> rfl
    · show Ck.pr (er c1) (er c2) = _; rw [e2, e4] <;> rfl
  · obtain ⟨x, rfl, s1⟩ := sup_bx hs
    have hR : ht (.bx x) = ht x + 1 := rfl
    obtain ⟨c1, e1, e2⟩ := h1 x (by omega) f _ _ n (1 - s) s1.symm (by omega)
    obtain ⟨c2, e3, e4⟩ := h1 x (by omega) f _ _ n s s1 (by omega)
    refine ⟨.bx c1 c2, ?_, ?_⟩
    · show (chkF f _ _ n (1 - s)).bind _ = _
      rw [e1]; show (chkF f _ _ n s).map _ = _; rw [e3] <;> rfl
    · show Ck.bx (er c1) (er c2) = _; rw [e2, e4] <;> rfl
theorem chk_go (R : Ty) (h1 : ∀ r, ht r < ht R → ChkAt r) (f : Nat) (X Y : Ty) (n s : Int) (hs : Sup X Y R) (hf : 2 * ht R + 2 ≤ f) : ∃ c, chkF f X Y n s = some c ∧ er c = T3 R X Y := by
  obtain ⟨f, rfl⟩ : ∃ g, f = g + 1 := ⟨f - 1, by omega⟩
  by_cases hx : X = .any
  · subst hx
    by_cases hy : Y = .any
    · subst hy
      have : R = .any := by rcases hs with ⟨rfl, _⟩ | ⟨rfl, _⟩ <;> rfl
      subst this
      exact ⟨.any, by show (if _ then _ else _) = _; rw [if_pos ⟨rfl, rfl⟩], rfl⟩
    · have hR : R = Y := by
        rcases hs with ⟨rfl, h⟩ | ⟨rfl, _⟩
        · exact absurd (any_le h) hy
        · rfl
      subst hR
      have hg : le (gty (gd R)) R := le_gty.resolve_right hy
      obtain ⟨c, e1, e2⟩ := chk0 h1 (f := f) (n := n) (s := s) (.inr ⟨rfl, hg⟩) (gty_ne _) hy (by omega)
      refine ⟨.take (gd R) n s c, ?_, ?_⟩
      · show (if _ then _ else if _ then _ else if _ then _ else _) = _
        rw [if_neg (fun z => hy z.2), if_neg hy, if_pos rfl, e1] <;> rfl
      · rw [T3_eq hy]
        show Ck.take (gd R) 0 0 (er c) = _
        unfold tk gv
        rw [if_pos rfl, if_neg hy, e2, T0_gl hy]
  · have hRn := sup_ne hs hx
    by_cases hy : Y = .any
    · subst hy
      have hR : R = X := by
        rcases hs with ⟨rfl, h⟩ | ⟨rfl, h⟩
        · rfl
        · exact absurd rfl hRn
      subst hR
      have hg : le (gty (gd R)) R := le_gty.resolve_right hx
      obtain ⟨c, e1, e2⟩ := chk0 h1 (f := f) (n := n) (s := s) (.inl ⟨rfl, hg⟩) hx (gty_ne _) (by omega)
      refine ⟨.give c, ?_, ?_⟩
      · show (if _ then _ else if _ then _ else if _ then _ else _) = _
        rw [if_neg (fun z => hx z.1), if_pos rfl, e1] <;> rfl
      · rw [T3_eq hx]
        show Ck.give (er c) = _
        unfold tk gv
        rw [if_neg hx, if_pos rfl, e2, T0_gr hx]
    · obtain ⟨c, e1, e2⟩ := chk0 h1 (f := f + 1) (n := n) (s := s) hs hx hy (by omega)
      refine ⟨c, e1, ?_⟩
      rw [T3_eq hRn, e2]
      unfold tk gv
      rw [if_neg hx, if_neg hy]
theorem chk_T3 : ∀ (k : Nat) (R : Ty), ht R ≤ k → ChkAt R := by
  intro k
  induction k with
  | zero =>
    intro R hR f X Y n s hs hf
    exact chk_go R (fun r h => by omega) f X Y n s hs hf
  | succ k ih =>
    intro R hR f X Y n s hs hf
    exact chk_go R (fun r h => ih r (by omega)) f X Y n s hs hf
/-! ### join -/
theorem plainJ_er {J : Ck → Ck → Option Ck} (hJ : ∀ a b, (J a b).map er = J (er a) (er b)) (a b : Ck) : (plainJ J a b).map er = plainJ J (er a) (er b) := by
  cases a <;> cases b <;> first | rfl | skip
  · rename_i s t s' t'
    show ((J s' s).bind fun x => (J t t').map fun y => Ck.fn x y).map er = (J (er s') (er s)).bind fun x => (J (er t) (er t')).map fun y => Ck.fn x y
    rw [← hJ, ← hJ]
    cases J s' s <;> cases J t t' <;> rfl
  · rename_i s t s' t'
    show ((J s s').bind fun x => (J t t').map fun y => Ck.pr x y).map er = (J (er s) (er s')).bind fun x => (J (er t) (er t')).map fun y => Ck.pr x y
    rw [← hJ, ← hJ]
    cases J s s' <;> cases J t t' <;> rfl
  · rename_i s t s' t'
    show ((J s' s).bind fun x => (J t t').map fun y => Ck.bx x y).map er = (J (er s') (er s)).bind fun x => (J (er t) (er t')).map fun y => Ck.bx x y
    rw [← hJ, ← hJ]
    cases J s' s <;> cases J t t' <;> rfl
theorem giveJ_er {J : Ck → Ck → Option Ck} (hJ : ∀ a b, (J a b).map er = J (er a) (er b)) (g t : Ck) : (giveJ J g t).map er = giveJ J (er g) (er t) := by
  cases t <;> first | rfl | skip
  rename_i k n s i
  show (if pg g = some k then J g i else none).map er = if pg (er g) = some k then J (er g) (er i) else none
  rw [pg_er]
  by_cases h : pg g = some k
  · rw [if_pos h, if_pos h, hJ]
  · rw [if_neg h, if_neg h] <;> rfl
theorem join_er : ∀ (f : Nat) (a b : Ck), (joinF f a b).map er = joinF f (er a) (er b)
  | 0, _, _ => rfl
  | f + 1, a, b => by
    have ih := join_er f
    cases a with
    | any => rfl
    | take g n s i =>
      show ((joinF f i b).map (Ck.take g n s)).map er = (joinF f (er i) (er b)).map (Ck.take g 0 0)
      rw [← ih]
      cases joinF f i b <;> rfl
    | give g => exact giveJ_er ih g b
    | same g =>
      cases b <;> first | exact plainJ_er ih (.same g) _ | skip
      rename_i t
      show ((plainJ (joinF f) (.same g) t).map Ck.give).map er = (plainJ (joinF f) (.same g) (er t)).map Ck.give
      rw [show plainJ (joinF f) (.same g) (er t) = (plainJ (joinF f) (.same g) t).map er from (plainJ_er ih (.same g) t).symm]
      cases plainJ (joinF f) (.same g) t <;> rfl
    | fn x y =>
      cases b <;> first | exact plainJ_er ih (.fn x y) _ | skip
      rename_i t
      show ((plainJ (joinF f) (.fn x y) t).map Ck.give).map er = (plainJ (joinF f) (.fn (er x) (er y)) (er t)).map Ck.give
      rw [show plainJ (joinF f) (.fn (er x) (er y)) (er t) = (plainJ (joinF f) (.fn x y) t).map er from (plainJ_er ih (.fn x y) t).symm]
      cases plainJ (joinF f) (.fn x y) t <;> rfl
    | pr x y =>
      cases b <;> first | exact plainJ_er ih (.pr x y) _ | skip
      rename_i t
      show ((plainJ (joinF f) (.pr x y) t).map Ck.give).map er = (plainJ (joinF f) (.pr (er x) (er y)) (er t)).map Ck.give
      rw [show plainJ (joinF f) (.pr (er x) (er y)) (er t) = (plainJ (joinF f) (.pr x y) t).map er from (plainJ_er ih (.pr x y) t).symm]
      cases plainJ (joinF f) (.pr x y) t <;> rfl
    | bx x y =>
      cases b <;> first | exact plainJ_er ih (.bx x y) _ | skip
      rename_i t
      show ((plainJ (joinF f) (.bx x y) t).map Ck.give).map er = (plainJ (joinF f) (.bx (er x) (er y)) (er t)).map Ck.give
      rw [show plainJ (joinF f) (.bx (er x) (er y)) (er t) = (plainJ (joinF f) (.bx x y) t).map er from (plainJ_er ih (.bx x y) t).symm]
      cases plainJ (joinF f) (.bx x y) t <;> rfl
end Hn.Pl
end

/- HnP3 -/
section
set_option linter.all false
set_option maxRecDepth 100000
namespace Hn.Pl
theorem le_a1_fn {A p q : Ty} (h : le A (.fn p q)) : le (a1 A) p ∧ le (a2 A) q := by
  rcases le_fn h with rfl | ⟨a, b, rfl, h1, h2⟩
  · exact ⟨le_any, le_any⟩
  · exact ⟨h1, h2⟩
theorem le_a1_pr {A p q : Ty} (h : le A (.pr p q)) : le (a1 A) p ∧ le (a2 A) q := by
  rcases le_pr h with rfl | ⟨a, b, rfl, h1, h2⟩
  · exact ⟨le_any, le_any⟩
  · exact ⟨h1, h2⟩
theorem le_a1_bx {A p : Ty} (h : le A (.bx p)) : le (a1 A) p := by
  rcases le_bx h with rfl | ⟨a, rfl, h1⟩
  · exact le_any
  · exact h1
def JnAt (R : Ty) : Prop := ∀ f P Q X Y Z, Sup P Q R → le X P → le Y P → le Y Q → le Z Q → 3 * ht R + 3 ≤ f → joinF f (T3 P X Y) (T3 Q Y Z) = some (T3 R X Z)
theorem jn3 {R : Ty} (h1 : ∀ r, ht r < ht R → JnAt r) {f : Nat} {P Q X Y Z : Ty} (hs : Sup P Q R) (hP : P ≠ .any) (hQ : Q ≠ .any) (x1 : le X P) (y1 : le Y P) (y2 : le Y Q) (z1 : le Z Q) (hf : 3 * ht R ≤ f) :
    plainJ (joinF f) (T0 P X Y) (T0 Q Y Z) = some (T0 R X Z) := by
  have gP := sup_gd hs hP
  have gQ := sup_gd hs.symm hQ
  cases P <;> cases Q <;> first | exact absurd rfl hP | exact absurd rfl hQ | (exfalso; rw [← gP] at gQ; cases gQ; done) | skip
  · cases R <;> first | rfl | (rcases hs with ⟨e, _⟩ | ⟨e, _⟩ <;> cases e)
  · cases R <;> first | rfl | (rcases hs with ⟨e, _⟩ | ⟨e, _⟩ <;> cases e)
  · cases R <;> first | rfl | (rcases hs with ⟨e, _⟩ | ⟨e, _⟩ <;> cases e)
  · obtain ⟨x, y, rfl, s1, s2⟩ := sup_fn hs
    have hR : ht (.fn x y) = max (ht x) (ht y) + 1 := rfl
    have a := le_a1_fn x1; have b := le_a1_fn y1; have c := le_a1_fn y2; have d := le_a1_fn z1
    have e1 := h1 x (by omega) f _ _ (a1 Z) (a1 Y) (a1 X) s1.symm d.1 c.1 b.1 a.1 (by omega)
    have e2 := h1 y (by omega) f _ _ (a2 X) (a2 Y) (a2 Z) s2 a.2 b.2 c.2 d.2 (by omega)
    show (joinF f _ _).bind _ = _
    rw [e1]; show (joinF f _ _).map _ = _; rw [e2] <;> rfl
  · obtain ⟨x, y, rfl, s1, s2⟩ := sup_pr hs
    have hR : ht (.pr x y) = max (ht x) (ht y) + 1 := rfl
    have a := le_a1_pr x1; have b := le_a1_pr y1; have c := le_a1_pr y2; have d := le_a1_pr z1
    have e1 := h1 x (by omega) f _ _ (a1 X) (a1 Y) (a1 Z) s1 a.1 b.1 c.1 d.1 (by omega)
    have e2 := h1 y (by omega) f _ _ (a2 X) (a2 Y) (a2 Z) s2 a.2 b.2 c.2 d.2 (by omega)
    show (joinF f _ _).bind _ = _
    rw [e1]; show (joinF f _ _).map _ = _; rw [e2] <;> rfl
  · obtain ⟨x, rfl, s1⟩ := sup_bx hs
    have hR : ht (.bx x) = ht x + 1 := rfl
    have a := le_a1_bx x1; have b := le_a1_bx y1; have c := le_a1_bx y2; have d := le_a1_bx z1
    have e1 := h1 x (by omega) f _ _ (a1 Z) (a1 Y) (a1 X) s1.symm d c b a (by omega)
    have e2 := h1 x (by omega) f _ _ (a1 X) (a1 Y) (a1 Z) s1 a b c d (by omega)
    show (joinF f _ _).bind _ = _
    rw [e1]; show (joinF f _ _).map _ = _; rw [e2] <;> rfl
/-- T0 is plain -/
theorem pg_T0 {P X Y : Ty} (h : P ≠ .any) : pg (T0 P X Y) = some (gd P) := by cases P <;> first | exact absurd rfl h | rfl
theorem join_plain0 {f : Nat} {a t : Ck} {g k : Gd} (h : pg a = some g) (h2 : pg t = some k) : joinF (f + 1) a t = plainJ (joinF f) a t := by
  cases a <;> first | cases h; done | skip
  all_goals cases t <;> first | cases h2; done | rfl
theorem join_plainG {f : Nat} {a t : Ck} {g : Gd} (h : pg a = some g) : joinF (f + 1) a (.give t) = (plainJ (joinF f) a t).map .give := by
  cases a <;> first | cases h; done | rfl
theorem jn2 {R : Ty} (h1 : ∀ r, ht r < ht R → JnAt r) {f : Nat} {P Q X Y Z : Ty} (hs : Sup P Q R) (hP : P ≠ .any) (hQ : Q ≠ .any) (x1 : le X P) (y1 : le Y P) (y2 : le Y Q) (z1 : le Z Q) (hf : 3 * ht R + 1 ≤ f) :
    joinF f (T0 P X Y) (gv Z (T0 Q Y Z)) = some (gv Z (T0 R X Z)) := by
  obtain ⟨f, rfl⟩ : ∃ g, f = g + 1 := ⟨f - 1, by omega⟩
  have e := jn3 h1 hs hP hQ x1 y1 y2 z1 (f := f) (by omega)
  unfold gv
  by_cases hz : Z = .any
  · rw [if_pos hz, if_pos hz, join_plainG (pg_T0 hP), e] <;> rfl
  · rw [if_neg hz, if_neg hz, join_plain0 (pg_T0 hP) (pg_T0 hQ), e]
theorem jn1 {R : Ty} (h1 : ∀ r, ht r < ht R → JnAt r) {f : Nat} {P Q X Y Z : Ty} (hs : Sup P Q R) (hP : P ≠ .any) (x1 : le X P) (y1 : le Y P) (y2 : le Y Q) (z1 : le Z Q) (hf : 3 * ht R + 2 ≤ f) :
    joinF f (gv Y (T0 P X Y)) (T3 Q Y Z) = some (gv Z (T0 R X Z)) := by
  obtain ⟨f, rfl⟩ : ∃ g, f = g + 1 := ⟨f - 1, by omega⟩
  by_cases hy : Y = .any
  · subst hy
    have e0 : gv .any (T0 P X .any) = .give (T0 P X .any) := by unfold gv; rw [if_pos rfl]
    rw [e0]
    by_cases hQ : Q = .any
    · subst hQ
      have hZ := any_le z1
      subst hZ
      have hR : R = P := by
        rcases hs with ⟨rfl, _⟩ | ⟨rfl, h⟩
        · rfl
        · exact absurd (any_le h) hP
      subst hR
      show giveJ (joinF f) (T0 R X .any) .any = _
      unfold gv
      rw [if_pos rfl] <;> rfl
    · have gPQ : gd P = gd Q := (sup_gd hs hP).trans (sup_gd hs.symm hQ).symm
      rw [T3_eq hQ]
      have e1 : tk .any (gd Q) (gv Z (T0 Q .any Z)) = .take (gd Q) 0 0 (gv Z (T0 Q .any Z)) := by unfold tk; rw [if_pos rfl]
      rw [e1]
      show (if pg (T0 P X .any) = some (gd Q) then joinF f (T0 P X .any) (gv Z (T0 Q .any Z)) else none) = _
      rw [if_pos (by rw [pg_T0 hP, gPQ])]
      exact jn2 h1 hs hP hQ x1 y1 y2 z1 (by omega)
  · have hQ : Q ≠ .any := fun z => by subst z; exact hy (any_le y2)
    have e0 : gv Y (T0 P X Y) = T0 P X Y := by unfold gv; rw [if_neg hy]
    have e1 : T3 Q Y Z = gv Z (T0 Q Y Z) := by rw [T3_eq hQ]; unfold tk; rw [if_neg hy]
    rw [e0, e1]
    exact jn2 h1 hs hP hQ x1 y1 y2 z1 (by omega)
theorem jn_go (R : Ty) (h1 : ∀ r, ht r < ht R → JnAt r) : JnAt R := by
  intro f P Q X Y Z hs x1 y1 y2 z1 hf
  by_cases hP : P = .any
  · subst hP
    have hX := any_le x1
    have hY := any_le y1
    subst hX hY
    have hR : R = Q := by
      rcases hs with ⟨rfl, h⟩ | ⟨rfl, _⟩
      · exact (any_le h).symm
      · rfl
    subst hR
    obtain ⟨f, rfl⟩ : ∃ g, f = g + 1 := ⟨f - 1, by omega⟩
    rfl
  · have hR := sup_ne hs hP
    have gPR := sup_gd hs hP
    rw [T3_eq hP, T3_eq hR, gPR]
    unfold tk
    by_cases hX : X = .any
    · rw [if_pos hX, if_pos hX]
      obtain ⟨f, rfl⟩ : ∃ g, f = g + 1 := ⟨f - 1, by omega⟩
      show (joinF f _ _).map _ = _
      rw [jn1 h1 hs hP x1 y1 y2 z1 (by omega)] <;> rfl
    · rw [if_neg hX, if_neg hX]
      exact jn1 h1 hs hP x1 y1 y2 z1 (by omega)
theorem jn_T3 : ∀ (k : Nat) (R : Ty), ht R ≤ k → JnAt R := by
  intro k
  induction k with
  | zero => exact fun R hR => jn_go R fun r h => by omega
  | succ k ih => exact fun R hR => jn_go R fun r h => ih r (by omega)
/-- two pending checks as one -/
theorem join_T3 {c d : Ck} {P Q R X Y Z : Ty} (hs : Sup P Q R) (x1 : le X P) (y1 : le Y P) (y2 : le Y Q) (z1 : le Z Q) (hR : ht R ≤ 4) (hc : er c = T3 P X Y) (hd : er d = T3 Q Y Z) : ∃ j, joinF FJ c d = some j ∧ er j = T3 R X Z := by
  have e := jn_T3 _ R (Nat.le_refl _) FJ P Q X Y Z hs x1 y1 y2 z1 (by show 3 * ht R + 3 ≤ 24; omega)
  have e2 := join_er FJ c d
  rw [hc, hd, e] at e2
  cases h : joinF FJ c d with
  | none => rw [h] at e2; cases e2
  | some j =>
    rw [h] at e2
    injection e2 with e2
    exact ⟨j, rfl, e2⟩
end Hn.Pl
end

/- HnP4 -/
section
set_option linter.all false
set_option maxRecDepth 100000
/-! Halfnoted, the plain law: what the loops elaborate to. IsC, bodyX, loop1, loop2 stand in W21; here they are taken as given by PL. -/
namespace Hn.Pl
/-- a cast, where the types differ -/
def ci (k : Int) (A B : Ty) (e : Co) : Co := if A = B then e else .cast k A B e
theorem ci_refl {k : Int} {A : Ty} {e : Co} : ci k A A e = e := if_pos rfl
theorem fit_ci {k : Int} {e : Co} {A T : Ty} (h : cons A T = true) (h1 : ht A ≤ 10) (h2 : ht T ≤ 10) : fit ⟨k, e, A⟩ T = some (ci k A T e) := by
  unfold fit ci
  rw [if_pos ⟨⟨h1, h2⟩, h⟩]
theorem cons_refl (A : Ty) : cons A A = true := (le_cons (le_refl A)).1
theorem fit_same {k : Int} {e : Co} {A : Ty} (h1 : ht A ≤ 10) : fit ⟨k, e, A⟩ A = some e := by
  rw [fit_ci (cons_refl A) h1 h1, ci_refl]
/-- the constants of a type, elaborated -/
inductive IsK : Ty → Sx → Co → Prop
  | fn {A B : Ty} (x : Nm) (e : Sx) (e' : Co) : IsK (.fn A B) (.fn x A e) (.fn x A e')
  | pr {A B : Ty} {e f : Sx} {e' f' : Co} (h : IsK A e e') (g : IsK B f f') : IsK (.pr A B) (.pr e f) (.pr e' f')
  | bx {A : Ty} {e : Sx} {e' : Co} (h : IsK A e e') : IsK (.bx A) (.bx e) (.bx e')
  | any (k : Int) : IsK .any (.as (.flag true) .any) (.cast k .bool .any (.flag true))
  | unit : IsK .unit .unit .unit
  | bool : IsK .bool (.flag false) (.flag false)
  | int (i : Int) : IsK .int (.num i) (.num i)
theorem el_name {x : Nm} {en : TEn} {t : Ty} (h : find en x = some t) (c : Int) : el (.name x) en c = some (⟨c, .name x, t⟩, c + 1) := by
  show (find en x).map _ = _
  rw [h] <;> rfl
theorem el_opn {en : TEn} (h : find en .n = some .int) (l : Bool) (c : Int) : el (.op l (.name .n) (.num 1)) en c = some (⟨c, .op l (.name .n) (.num 1), if l then .bool else .int⟩, c + 1 + 1 + 1) := by
  show (el (.name .n) en (c + 1)).bind _ = _
  rw [el_name h]
  have e : opP l ⟨c + 1, .name .n, .int⟩ ⟨c + 1 + 1, .num 1, .int⟩ = some (.op l (.name .n) (.num 1), if l then .bool else .int) := by
    unfold opP
    rw [fit_same (by decide), fit_same (by decide)] <;> rfl
  show (opP l ⟨c + 1, .name .n, .int⟩ ⟨c + 1 + 1, .num 1, .int⟩).map (fun z => ((⟨c, z.1, z.2⟩ : Pt), c + 1 + 1 + 1)) = _
  rw [e] <;> rfl
theorem el_call {en : TEn} {f a : Sx} {fc ac : Co} {B : Ty} {c d d2 : Int} {k k2 : Int} (h1 : el f en (c + 1) = some (⟨k, fc, .fn .int B⟩, d)) (h2 : el a en d = some (⟨k2, ac, .int⟩, d2)) (hB : ht B ≤ 8) : el (.call f a) en c = some (⟨c, .call fc ac, B⟩, d2) := by
  show (el f en (c + 1)).bind _ = _
  rw [h1]
  show (el a en d).bind _ = _
  rw [h2]
  show (callP _ _).map _ = _
  unfold callP
  show (if ht (.fn .int B) ≤ 10 then _ else none).map _ = _
  rw [if_pos (by show max 0 (ht B) + 1 ≤ 10; omega), fit_same (by decide)]
  rfl
theorem el_as {en : TEn} {e : Sx} {ec : Co} {A T : Ty} {c d k : Int} (h : el e en (c + 1) = some (⟨k, ec, A⟩, d)) (hc : cons A T = true) (h1 : ht A ≤ 10) (h2 : ht T ≤ 10) : el (.as e T) en c = some (⟨c, ci k A T ec, T⟩, d) := by
  show (el e en (c + 1)).bind _ = _
  rw [h]
  show (fit _ T).map _ = _
  rw [fit_ci hc h1 h2] <;> rfl
theorem el_ife {en : TEn} {a b f : Sx} {ac bc fc : Co} {A : Ty} {c d d2 d3 k k2 k3 : Int} (h1 : el a en (c + 1) = some (⟨k, ac, .bool⟩, d)) (h2 : el b en d = some (⟨k2, bc, A⟩, d2)) (h3 : el f en d2 = some (⟨k3, fc, A⟩, d3)) (hA : ht A ≤ 10) : el (.ife a b f) en c = some (⟨c, .ife ac bc fc, A⟩, d3) := by
  show (el a en (c + 1)).bind _ = _
  rw [h1]
  show (el b en d).bind _ = _
  rw [h2]
  show (el f en d2).bind _ = _
  rw [h3]
  show (ifP _ _ _).map _ = _
  unfold ifP
  rw [if_pos ⟨rfl, hA⟩, fit_same (by decide)]
  show ((fit _ A).bind _).map _ = _
  rw [fit_same hA]
  show ((fit _ A).map _).map _ = _
  rw [fit_same hA] <;> rfl
/-- the other branch: the call, taken around -/
def wayC (agc : Co) (A R : Ty) (f : Bool) (k1 k2 k3 : Int) : Co :=
  ci k2 .any A (ci k1 (if f then A else R) .any (if f then ci k3 R A (.call agc (.op false (.name .n) (.num 1))) else .call agc (.op false (.name .n) (.num 1))))
def bodyC (agc lc : Co) (A R : Ty) (f : Bool) (k1 k2 k3 : Int) : Co := .ife (.op true (.name .n) (.num 1)) lc (wayC agc A R f k1 k2 k3)
def bodyS (ag last : Sx) (A : Ty) (f : Bool) : Sx :=
  .ife (.op true (.name .n) (.num 1)) last (.as (.as (if f then .as (.call ag (.op false (.name .n) (.num 1))) A else .call ag (.op false (.name .n) (.num 1))) .any) A)
theorem el_body {en : TEn} {ag last : Sx} {agc : Co} {A R : Ty} (hn : find en .n = some .int) (hag : ∀ c, ∃ d, el ag en c = some (⟨c, agc, .fn .int R⟩, d)) (hl : ∀ c, ∃ lc d, el last en c = some (⟨c, lc, A⟩, d) ∧ IsK A last lc)
    (hR : le R A) (hA : ht A ≤ 3) (f : Bool) (c : Int) : ∃ lc k1 k2 k3 d, el (bodyS ag last A f) en c = some (⟨c, bodyC agc lc A R f k1 k2 k3, A⟩, d) ∧ IsK A last lc := by
  have hRh := le_ht hR
  obtain ⟨lc, d, e1, e2⟩ := hl (c + 1 + 1 + 1 + 1)
  have call : ∀ c, ∃ d, el (.call ag (.op false (.name .n) (.num 1))) en c = some (⟨c, .call agc (.op false (.name .n) (.num 1)), R⟩, d) := fun c => by
    obtain ⟨d, h⟩ := hag (c + 1)
    exact ⟨_, el_call h (el_opn hn false d) (by omega)⟩
  cases f with
  | false =>
    obtain ⟨d2, h2⟩ := call (d + 1 + 1)
    have h3 := el_as h2 (cons_any_r R) (by omega) (Nat.zero_le _)
    have h4 := el_as h3 (cons_any_l A) (Nat.zero_le _) (by omega)
    exact ⟨lc, _, _, 0, _, el_ife (el_opn hn true _) e1 h4 (by omega), e2⟩
  | true =>
    obtain ⟨d2, h2⟩ := call (d + 1 + 1 + 1)
    have h25 := el_as h2 (le_cons hR).1 (by omega) (by omega)
    have h3 := el_as h25 (cons_any_r A) (by omega) (Nat.zero_le _)
    have h4 := el_as h3 (cons_any_l A) (Nat.zero_le _) (by omega)
    exact ⟨lc, _, _, _, _, el_ife (el_opn hn true _) e1 h4 (by omega), e2⟩
def loopA (A N : Ty) (last : Sx) (f : Bool) : Sx := .rc .h .n .int N (bodyS (.name .h) last A f)
def loopB (A N : Ty) (last : Sx) (f g : Bool) : Sx :=
  .lt .b (.bx (.as (.fn .n .int last) (.fn .int N))) (.lt .o (.fn .n .int (bodyS (.get (.name .b)) last A f)) (.lt .s (.put (.name .b) (.fn .n .int (bodyS (.name .o) last A g))) (.name .o)))
theorem el_loopA {A N : Ty} {last : Sx} {f : Bool} (hl : ∀ en c, ∃ lc d, el last en c = some (⟨c, lc, A⟩, d) ∧ IsK A last lc) (hN : le N A) (hA : ht A ≤ 3) : ∃ lc k0 k1 k2 k3, IsK A last lc ∧ ∀ i : Int, ∃ m, el (.call (loopA A N last f) (.num i)) [] 0 = some (⟨0, .call (.rc .h .n .int N (ci k0 A N (bodyC (.name .h) lc A N f k1 k2 k3))) (.num i), N⟩, m) := by
  have hNh := le_ht hN
  obtain ⟨lc, k1, k2, k3, d, e1, e2⟩ := el_body (en := [(.n, .int), (.h, .fn .int N)]) (ag := .name .h) (agc := .name .h) (R := N) (f := f) (c := 0 + 1 + 1) rfl (fun c => ⟨_, el_name rfl c⟩) (hl _) hN hA
  refine ⟨lc, 0 + 1 + 1, k1, k2, k3, e2, fun i => ⟨d + 1, ?_⟩⟩
  have e3 : el (loopA A N last f) [] (0 + 1) = some (⟨0 + 1, .rc .h .n .int N (ci (0 + 1 + 1) A N (bodyC (.name .h) lc A N f k1 k2 k3)), .fn .int N⟩, d) := by
    show (el (bodyS (.name .h) last A f) _ _).bind _ = _
    rw [e1]
    show (fit _ N).map _ = _
    rw [fit_ci (le_cons hN).2 (by omega) (by omega)] <;> rfl
  exact el_call e3 (k2 := d) (ac := .num i) rfl (by omega)
theorem el_fnc {en : TEn} {x : Nm} {T B : Ty} {e : Sx} {ec : Co} {c d k : Int} (h : el e ((x, T) :: en) (c + 1) = some (⟨k, ec, B⟩, d)) : el (.fn x T e) en c = some (⟨c, .fn x T ec, .fn T B⟩, d) := by
  show (el e _ _).map _ = _
  rw [h] <;> rfl
theorem el_lt {en : TEn} {x : Nm} {e f : Sx} {ec fc : Co} {A B : Ty} {c d d2 k k2 : Int} (h1 : el e en (c + 1) = some (⟨k, ec, A⟩, d)) (h2 : el f ((x, A) :: en) d = some (⟨k2, fc, B⟩, d2)) : el (.lt x e f) en c = some (⟨c, .lt x ec fc, B⟩, d2) := by
  show (el e en (c + 1)).bind _ = _
  rw [h1]
  show (el f _ d).map _ = _
  rw [h2] <;> rfl
theorem el_loopB {A N : Ty} {last : Sx} {f g : Bool} (hl : ∀ en c, ∃ lc d, el last en c = some (⟨c, lc, A⟩, d) ∧ IsK A last lc) (hN : le N A) (hA : ht A ≤ 3) :
    ∃ l0 l1 l2 k0 k1 k2 k3 k4 k5 k6 k7, IsK A last l1 ∧ IsK A last l2 ∧ ∀ i : Int, ∃ m, el (.call (loopB A N last f g) (.num i)) [] 0 = some (⟨0, .call (.lt .b (.bx (ci k0 (.fn .int A) (.fn .int N) (.fn .n .int l0)))
      (.lt .o (.fn .n .int (bodyC (.get (.name .b)) l1 A N f k1 k2 k3)) (.lt .s (.put (.name .b) (ci k4 (.fn .int A) (.fn .int N) (.fn .n .int (bodyC (.name .o) l2 A A g k5 k6 k7)))) (.name .o)))) (.num i), A⟩, m) := by
  have hNh := le_ht hN
  have hfn : cons (.fn .int A) (.fn .int N) = true := (le_cons (A := .fn .int N) (B := .fn .int A) ⟨trivial, hN⟩).2
  have hfA : ht (.fn .int A) ≤ 4 := by show max 0 (ht A) + 1 ≤ 4; omega
  have hfN : ht (.fn .int N) ≤ 4 := by show max 0 (ht N) + 1 ≤ 4; omega
  obtain ⟨l0, d0, q0, _⟩ := hl [(.n, .int)] (0 + 1 + 1 + 1 + 1 + 1)
  have b1 : el (.bx (.as (.fn .n .int last) (.fn .int N))) [] (0 + 1 + 1) = some (⟨0 + 1 + 1, .bx (ci (0 + 1 + 1 + 1 + 1) (.fn .int A) (.fn .int N) (.fn .n .int l0)), .bx (.fn .int N)⟩, d0) := by
    show (el (.as _ _) [] (0 + 1 + 1 + 1)).map _ = _
    rw [el_as (el_fnc q0) hfn (by omega) (by omega)] <;> rfl
  obtain ⟨l1, k1, k2, k3, d1, e1, i1⟩ := el_body (en := [(.n, .int), (.b, .bx (.fn .int N))]) (ag := .get (.name .b)) (agc := .get (.name .b)) (R := N) (f := f) (c := d0 + 1 + 1) rfl (fun c => ⟨c + 1 + 1, by
    show (el (.name .b) _ _).bind _ = _
    rw [el_name (t := .bx (.fn .int N)) rfl]
    show (getP _).map _ = _
    unfold getP
    show (if ht (.bx (.fn .int N)) ≤ 10 then _ else none).map _ = _
    rw [if_pos (by show ht (.fn .int N) + 1 ≤ 10; omega)] <;> rfl⟩) (hl _) hN hA
  have o1 := el_fnc e1
  obtain ⟨l2, k5, k6, k7, d2, e2, i2⟩ := el_body (en := [(.n, .int), (.o, .fn .int A), (.b, .bx (.fn .int N))]) (ag := .name .o) (agc := .name .o) (R := A) (f := g) (c := d1 + 1 + 1 + 1 + 1) rfl (fun c => ⟨_, el_name rfl c⟩) (hl _) (le_refl A) hA
  have p1 : el (.put (.name .b) (.fn .n .int (bodyS (.name .o) last A g))) [(.o, .fn .int A), (.b, .bx (.fn .int N))] (d1 + 1) = some (⟨d1 + 1, .put (.name .b) (ci (d1 + 1 + 1 + 1) (.fn .int A) (.fn .int N) (.fn .n .int (bodyC (.name .o) l2 A A g k5 k6 k7))), .unit⟩, d2) := by
    show (el (.name .b) _ _).bind _ = _
    rw [el_name (t := .bx (.fn .int N)) rfl]
    show (el (.fn _ _ _) _ _).bind _ = _
    rw [el_fnc e2]
    show (putP _ _).map _ = _
    unfold putP
    show (if ht (.bx (.fn .int N)) ≤ 10 then _ else none).map _ = _
    rw [if_pos (by show ht (.fn .int N) + 1 ≤ 10; omega), fit_ci hfn (by omega) (by omega)] <;> rfl
  refine ⟨l0, l1, l2, _, k1, k2, k3, _, k5, k6, k7, i1, i2, fun i => ⟨_, el_call (el_lt b1 (el_lt o1 (el_lt p1 (el_name (t := .fn .int A) rfl _)))) (k2 := _) (ac := .num i) rfl (by omega)⟩⟩
end Hn.Pl
end

/- HnP5 -/
section
set_option linter.all false
set_option maxRecDepth 100000
/-! Halfnoted, the plain law: steps of the machine in larger pieces; what it measures as a list of triples. -/
namespace Hn.Pl
structure Q3 where
  a : Int
  b : Int
  c : Int
def mq (q r : Q3) : Q3 := ⟨max q.a r.a, max q.b r.b, max q.c r.c⟩
def mqs (q : Q3) (l : List Q3) : Q3 := l.foldl mq q
theorem mqs_app (q : Q3) (l m : List Q3) : mqs q (l ++ m) = mqs (mqs q l) m := List.foldl_append
theorem mqs_cons (q x : Q3) (l : List Q3) : mqs q (x :: l) = mqs (mq q x) l := rfl
theorem mx_max (x y : Int) : mx x y = max x y := by
  unfold mx
  by_cases h : y > x
  · rw [if_pos h, Int.max_eq_right (by omega)]
  · rw [if_neg h, Int.max_eq_left (by omega)]
/-- a state by its parts -/
abbrev sT (calls : Int) (stk : List Fr) (wt pd cl : Int) (q : Q3) (sto : Nat → Option Va) : MS := ⟨calls, stk, wt, pd, cl, q.a, q.b, q.c, sto⟩
section
variable {P : Va → MS → Prop} {k : Nat} {calls wt pd cl : Int} {stk : List Fr} {q : Q3} {sto : Nat → Option Va} {e : Co} {en : En} {v u : Va} {f : Fr} {c : Nx} {st st' : MS}
theorem meas_sT : meas (sT calls stk wt pd cl q sto) = sT calls stk wt pd cl (mq q ⟨wt, pd, cl⟩) sto := by
  unfold meas sT mq
  simp only [mx_max]
theorem wait_sT : wait (sT calls stk wt pd cl q sto) f = sT calls (f :: stk) (wt + 1) pd cl (mq q ⟨wt + 1, pd, cl⟩) sto := by
  unfold wait
  exact meas_sT
theorem EndR_mono {P : Va → MS → Prop} {E E' : Nx → MS → Prop} (h : ∀ c st, E c st → E' c st) : ∀ {r : Res}, EndR P E r → EndR P E' r
  | .nx c st, z => h _ _ z
  | .al v st, z => fun a n => h _ _ (z a n)
  | .fin v st, z => z
  | .no, z => z
theorem Ends_succ : ∀ (k : Nat) {c : Nx} {st : MS}, Ends P k c st → Ends P (k + 1) c st
  | 0, _, _, h => h.elim
  | k + 1, c, st, h => EndR_mono (fun c st z => Ends_succ k z) h
theorem Ends_le {j : Nat} {c : Nx} {st : MS} (h : Ends P k c st) (hj : k ≤ j) : Ends P j c st := by
  obtain ⟨d, rfl⟩ := Nat.le.dest hj
  clear hj
  induction d with
  | zero => exact h
  | succ d ih => exact Ends_succ _ ih
theorem E_step (hl : st.stk.length ≤ 900) (h : EndR P (Ends P k) (step0 c st)) : Ends P (k + 1) c st := by
  show EndR P (Ends P k) (if st.stk.length ≤ 900 then step0 c st else .no)
  rw [if_pos hl]; exact h
theorem E_ev (hl : st.stk.length ≤ 900) (h : begin e en st = some (c, st')) (z : Ends P k c st') : Ends P (k + 1) (.ev e en) st := by
  refine E_step hl ?_
  show EndR P (Ends P k) (ofO (begin e en st))
  rw [h]; exact z
theorem E_fr (hl : stk.length < 900) (hf : ∀ c, f ≠ .ck c) (h : resume f v (sT calls stk (wt - 1) pd cl q sto) = .nx c st') (z : Ends P k c st') : Ends P (k + 1) (.va v) (sT calls (f :: stk) wt pd cl q sto) := by
  refine E_step (by show stk.length + 1 ≤ 900; omega) ?_
  rw [step0_fr (f := f) (r := stk) rfl hf]
  show EndR P (Ends P k) (resume f v (sT calls stk (wt - 1) pd cl q sto))
  rw [h]; exact z
theorem E_al (hl : stk.length < 900) (hf : ∀ c, f ≠ .ck c) (h : resume f v (sT calls stk (wt - 1) pd cl q sto) = .al u (sT calls stk (wt - 1) pd cl q sto)) (z : ∀ a, sto a = none → Ends P k (.va (.bx a)) (sT calls stk (wt - 1) pd cl q (setS sto a u))) : Ends P (k + 1) (.va v) (sT calls (f :: stk) wt pd cl q sto) := by
  refine E_step (by show stk.length + 1 ≤ 900; omega) ?_
  rw [step0_fr (f := f) (r := stk) rfl hf]
  show EndR P (Ends P k) (resume f v (sT calls stk (wt - 1) pd cl q sto))
  rw [h]; exact z
theorem E_ck {d : Ck} (hl : stk.length < 900) (hd : dp d ≤ FJ) (h : done d v = some u) (z : Ends P k (.va u) (sT calls stk wt (pd - 1) (cl - size d) q sto)) : Ends P (k + 1) (.va v) (sT calls (.ck d :: stk) wt pd cl q sto) := by
  refine E_step (by show stk.length + 1 ≤ 900; omega) ?_
  rw [step0_ck (c := d) (r := stk) rfl]
  have e : remP (sT calls (.ck d :: stk) wt pd cl q sto) = some (d, sT calls stk wt (pd - 1) (cl - size d) q sto) := by
    show (if dp d ≤ FJ then some _ else none) = _
    rw [if_pos hd]
  rw [e]
  show EndR P (Ends P k) (ofO ((done d v).map _))
  rw [h]; exact z
theorem E_fin (z : P v (sT calls [] wt pd cl q sto)) : Ends P (k + 1) (.va v) (sT calls [] wt pd cl q sto) := E_step (Nat.zero_le _) z
end
/-! ### the pending check at a tail place -/
def stkP : Option Ck → List Fr
  | none => [] | some j => [.ck j]
def pdP : Option Ck → Int
  | none => 0 | some _ => 1
def clP : Option Ck → Int
  | none => 0 | some j => size j
abbrev tl (calls : Int) (p : Option Ck) (q : Q3) (sto : Nat → Option Va) : MS := sT calls (stkP p) 0 (pdP p) (clP p) q sto
theorem stkP_len (p : Option Ck) : (stkP p).length ≤ 1 := by
  cases p
  · exact Nat.zero_le _
  · exact Nat.le_refl _
/-- p leads from X through Q to Z -/
def Rp (p : Option Ck) (Q X Z : Ty) : Prop := match p with
  | none => X = Z ∧ Q = X
  | some j => er j = T3 Q X Z ∧ le X Q ∧ le Z Q
theorem Rp.dp {j : Ck} {Q X Z : Ty} (h : Rp (some j) Q X Z) (hQ : ht Q ≤ 4) : dp j ≤ FJ := by
  rw [← dp_er, h.1]
  have := dp_T3 Q X Z
  show _ ≤ 24
  omega
theorem Rp.size {j : Ck} {Q X Z : Ty} (h : Rp (some j) Q X Z) : size j = size (T3 Q X Z) := by rw [← size_er, h.1]
theorem Rp.leX {p : Option Ck} {Q X Z : Ty} (h : Rp p Q X Z) : le X Q ∧ le Z Q := by
  cases p with
  | none => obtain ⟨rfl, rfl⟩ := h; exact ⟨le_refl _, le_refl _⟩
  | some j => exact h.2
theorem Sup.le {X Y R : Ty} (h : Sup X Y R) : le X R ∧ le Y R := by
  rcases h with ⟨rfl, h⟩ | ⟨rfl, h⟩
  · exact ⟨le_refl _, h⟩
  · exact ⟨h, le_refl _⟩
theorem le_trans : ∀ {A B C : Ty}, le A B → le B C → le A C
  | A, B, .any, h, g => by rw [any_le g] at h; exact h
  | A, B, .int, h, g => by rcases le_int g with rfl | rfl; exact any_le h ▸ le_any; exact h
  | A, B, .bool, h, g => by rcases le_bool g with rfl | rfl; exact any_le h ▸ le_any; exact h
  | A, B, .unit, h, g => by rcases le_unit g with rfl | rfl; exact any_le h ▸ le_any; exact h
  | A, B, .fn p q, h, g => by
    rcases le_fn g with rfl | ⟨a, b, rfl, g1, g2⟩
    · rw [any_le h]; exact le_any
    · rcases le_fn h with rfl | ⟨c, d, rfl, h1, h2⟩
      · exact le_any
      · exact ⟨le_trans h1 g1, le_trans h2 g2⟩
  | A, B, .pr p q, h, g => by
    rcases le_pr g with rfl | ⟨a, b, rfl, g1, g2⟩
    · rw [any_le h]; exact le_any
    · rcases le_pr h with rfl | ⟨c, d, rfl, h1, h2⟩
      · exact le_any
      · exact ⟨le_trans h1 g1, le_trans h2 g2⟩
  | A, B, .bx p, h, g => by
    rcases le_bx g with rfl | ⟨a, rfl, g1⟩
    · rw [any_le h]; exact le_any
    · rcases le_bx h with rfl | ⟨c, rfl, h1⟩
      · exact le_any
      · exact (le_trans h1 g1 : le c p)
theorem le_antisymm : ∀ {A B : Ty}, le A B → le B A → A = B
  | A, .any, h, g => any_le h
  | A, .int, h, g => by rcases le_int h with rfl | rfl; exact (any_le g).symm; rfl
  | A, .bool, h, g => by rcases le_bool h with rfl | rfl; exact (any_le g).symm; rfl
  | A, .unit, h, g => by rcases le_unit h with rfl | rfl; exact (any_le g).symm; rfl
  | A, .fn p q, h, g => by
    rcases le_fn h with rfl | ⟨a, b, rfl, h1, h2⟩
    · exact (any_le g).symm
    · rw [le_antisymm h1 g.1, le_antisymm h2 g.2]
  | A, .pr p q, h, g => by
    rcases le_pr h with rfl | ⟨a, b, rfl, h1, h2⟩
    · exact (any_le g).symm
    · rw [le_antisymm h1 g.1, le_antisymm h2 g.2]
  | A, .bx p, h, g => by
    rcases le_bx h with rfl | ⟨a, rfl, h1⟩
    · exact (any_le g).symm
    · rw [le_antisymm h1 (show le p a from g)]
/-- a check added at a tail place -/
theorem add_tl {p : Option Ck} {Q X Y Z R1 R2 : Ty} {c : Ck} (hp : Rp p Q X Z) (h1 : le Y R1) (h2 : le X R1) (hs : Sup R1 Q R2) (hR : ht R2 ≤ 4) (hQ : ht Q ≤ 4) (hR1 : ht R1 ≤ 4) (hc : er c = T3 R1 Y X) : ∃ j, Rp (some j) R2 Y Z ∧ ∀ (calls : Int) (q : Q3) (sto : Nat → Option Va), addP (tl calls p q sto) c = some (tl calls (some j) (mq q ⟨0, 1, size (T3 R2 Y Z)⟩) sto) := by
  have dc : dp c ≤ FJ := by
    rw [← dp_er, hc]
    have := dp_T3 R1 Y X
    show _ ≤ 24
    omega
  cases p with
  | none =>
    obtain ⟨rfl, rfl⟩ := hp
    have e : R2 = R1 := by
      rcases hs with ⟨rfl, _⟩ | ⟨rfl, h⟩
      · rfl
      · exact le_antisymm h2 h
    subst e
    refine ⟨c, ⟨hc, h1, h2⟩, fun calls q sto => ?_⟩
    show (if dp c ≤ FJ then pushP _ c else none) = _
    rw [if_pos dc]
    show (if dp c ≤ FJ then some (meas _) else none) = _
    rw [if_pos dc]
    have e : size c = size (er c) := (size_er c).symm
    rw [hc] at e
    rw [← e]
    have z : meas (sT calls [.ck c] 0 (0 + 1) (0 + size c) q sto) = sT calls [.ck c] 0 (0 + 1) (0 + size c) (mq q ⟨0, 0 + 1, 0 + size c⟩) sto := meas_sT
    rw [Int.zero_add, Int.zero_add] at z
    show some (meas (sT calls [.ck c] 0 (0 + 1) (0 + size c) q sto)) = _
    rw [Int.zero_add, Int.zero_add, z] <;> rfl
  | some o =>
    obtain ⟨e1, l1, l2⟩ := hp
    obtain ⟨j, hj, ej⟩ := join_T3 hs h1 h2 l1 l2 hR hc e1
    have dO : dp o ≤ FJ := Rp.dp (Q := Q) (X := X) (Z := Z) ⟨e1, l1, l2⟩ hQ
    have RJ : Rp (some j) R2 Y Z := ⟨ej, le_trans h1 hs.le.1, le_trans l2 hs.le.2⟩
    have dJ : dp j ≤ FJ := RJ.dp hR
    refine ⟨j, RJ, fun calls q sto => ?_⟩
    show (if dp c ≤ FJ then ((remP _).bind _) else none) = _
    rw [if_pos dc]
    have e : remP (tl calls (some o) q sto) = some (o, sT calls [] 0 (1 - 1) (size o - size o) q sto) := by
      show (if dp o ≤ FJ then some _ else none) = _
      rw [if_pos dO] <;> rfl
    rw [e]
    show (joinF FJ c o).bind _ = _
    rw [hj]
    show (if dp j ≤ FJ then some (meas _) else none) = _
    rw [if_pos dJ, ← RJ.size]
    have z : meas (sT calls [.ck j] 0 (1 - 1 + 1) (size o - size o + size j) q sto) = sT calls [.ck j] 0 (1 - 1 + 1) (size o - size o + size j) (mq q ⟨0, 1 - 1 + 1, size o - size o + size j⟩) sto := meas_sT
    rw [Int.sub_self, Int.sub_self, Int.zero_add, Int.zero_add] at z
    show some (meas (sT calls [.ck j] 0 (1 - 1 + 1) (size o - size o + size j) q sto)) = _
    rw [Int.sub_self, Int.sub_self, Int.zero_add, Int.zero_add, z] <;> rfl
end Hn.Pl
end

/- HnP6 -/
section
set_option linter.all false
set_option maxRecDepth 100000
namespace Hn.Pl
/-- what a cast from Y to X measures, the pending check behind it leading through R to Z -/
def ce (Y X R Z : Ty) : List Q3 := if Y = X then [] else [⟨0, 1, size (T3 R Y Z)⟩]
theorem ci_tl {p : Option Ck} {Q X Y Z R1 R2 : Ty} (n : Int) (hp : Rp p Q X Z) (h1 : Sup Y X R1) (hs : Sup R1 Q R2) (hR : ht R2 ≤ 4) : ∃ p', Rp p' R2 Y Z ∧ (Y = X → p' = p) ∧ (Y ≠ X → p' ≠ none) ∧
    ∀ (P : Va → MS → Prop) (k : Nat) (calls : Int) (q : Q3) (sto : Nat → Option Va) (e : Co) (en : En), Ends P k (.ev e en) (tl calls p' (mqs q (ce Y X R2 Z)) sto) → Ends P (k + 1) (.ev (ci n Y X e) en) (tl calls p q sto) := by
  have hQ : ht Q ≤ 4 := Nat.le_trans (le_ht hs.le.2) hR
  have hR1 : ht R1 ≤ 4 := Nat.le_trans (le_ht hs.le.1) hR
  have hY := le_ht h1.le.1
  have hX := le_ht h1.le.2
  by_cases e : Y = X
  · subst e
    have e1 : R1 = Y := by rcases h1 with ⟨rfl, _⟩ | ⟨rfl, _⟩ <;> rfl
    subst e1
    have e2 : R2 = Q := by
      rcases hs with ⟨rfl, h⟩ | ⟨rfl, h⟩
      · exact le_antisymm hp.leX.1 h
      · rfl
    subst e2
    refine ⟨p, hp, fun _ => rfl, fun z => absurd rfl z, fun P k calls q sto e en z => ?_⟩
    unfold ce at z
    rw [if_pos rfl] at z
    rw [ci_refl]
    exact Ends_succ _ z
  · obtain ⟨c, hc, ec⟩ := chk_T3 _ R1 (Nat.le_refl _) FC Y X n 1 h1 (by show 2 * ht R1 + 2 ≤ 12; omega)
    obtain ⟨j, hj, add⟩ := add_tl hp h1.le.1 h1.le.2 hs hR hQ hR1 ec
    refine ⟨some j, hj, fun z => absurd z e, (fun _ z => nomatch z), fun P k calls q sto ex en z => ?_⟩
    unfold ce at z
    rw [if_neg e] at z
    unfold ci
    rw [if_neg e]
    refine E_ev (c := .ev ex en) (Nat.le_trans (stkP_len p) (by decide)) ?_ z
    show (if ht Y ≤ 50 ∧ ht X ≤ 50 then (chkF FC Y X n 1).bind _ else none) = _
    rw [if_pos ⟨by omega, by omega⟩, hc]
    show (addP (tl calls p q sto) c).map _ = _
    rw [add] <;> rfl
section
variable {P : Va → MS → Prop} {k : Nat} {calls wt pd cl : Int} {stk : List Fr} {q : Q3} {sto : Nat → Option Va} {e1 e2 : Co} {en : En} {i : Int} {c : Nx} {st' : MS} {fv : Va} {x : Nm} {a : Nat}
/-- what the test measures -/
def te (wt pd cl : Int) : List Q3 := [⟨wt + 1, pd, cl⟩, ⟨wt + 1 + 1, pd, cl⟩, ⟨wt + 1 + 1, pd, cl⟩]
theorem run_opn {l : Bool} {r : Va} (hn : look en .n = some (.int i)) (hl : stk.length ≤ 880) (ho : oper l (.int i) (.int 1) = some r) (z : Ends P k (.va r) (sT calls stk wt pd cl (mqs q [⟨wt + 1, pd, cl⟩, ⟨wt + 1, pd, cl⟩]) sto)) : Ends P (k + 5) (.ev (.op l (.name .n) (.num 1)) en) (sT calls stk wt pd cl q sto) := by
  refine E_ev (c := .ev (.name .n) en) (by show stk.length ≤ 900; omega) rfl ?_
  rw [wait_sT]
  refine E_ev (c := .va (.int i)) (by show stk.length + 1 ≤ 900; omega) (by show (look en .n).map _ = _; rw [hn] <;> rfl) ?_
  refine E_fr (by omega) (fun c h => nomatch h) rfl ?_
  rw [Int.add_sub_cancel, wait_sT]
  refine E_ev (c := .va (.int 1)) (by show stk.length + 1 ≤ 900; omega) rfl ?_
  refine E_fr (c := .va r) (st' := sT calls stk (wt + 1 - 1) pd cl (mq (mq q ⟨wt + 1, pd, cl⟩) ⟨wt + 1, pd, cl⟩) sto) (by omega) (fun c h => nomatch h) (by show ofO ((oper l (.int i) (.int 1)).map _) = _; rw [ho] <;> rfl) ?_
  rw [Int.add_sub_cancel]
  exact z
theorem run_test (hn : look en .n = some (.int i)) (hl : stk.length ≤ 870) (z : Ends P k (.ev (if decide (i < 1) then e1 else e2) en) (sT calls stk wt pd cl (mqs q (te wt pd cl)) sto)) : Ends P (k + 7) (.ev (.ife (.op true (.name .n) (.num 1)) e1 e2) en) (sT calls stk wt pd cl q sto) := by
  refine E_ev (c := .ev (.op true (.name .n) (.num 1)) en) (by show stk.length ≤ 900; omega) rfl ?_
  rw [wait_sT]
  refine run_opn (r := .bool (decide (i < 1))) hn (by show stk.length + 1 ≤ 880; omega) rfl ?_
  refine E_fr (by omega) (fun c h => nomatch h) rfl ?_
  rw [Int.add_sub_cancel]
  exact z
theorem w32_ok (h : 1 ≤ i ∧ i ≤ 1000) : w32 (i - 1) = i - 1 := by
  unfold w32
  omega
/-- what a call measures -/
def ke (wt pd cl : Int) : List Q3 := [⟨wt + 1, pd, cl⟩, ⟨wt + 1, pd, cl⟩, ⟨wt + 1 + 1, pd, cl⟩, ⟨wt + 1 + 1, pd, cl⟩]
theorem run_arg (hn : look en .n = some (.int i)) (hi : 1 ≤ i ∧ i ≤ 1000) (hl : stk.length ≤ 870) (he : enter fv (.int (i - 1)) (sT calls stk wt pd cl (mqs q [⟨wt + 1, pd, cl⟩, ⟨wt + 1 + 1, pd, cl⟩, ⟨wt + 1 + 1, pd, cl⟩]) sto) = some (c, st')) (z : Ends P k c st') :
    Ends P (k + 7) (.va fv) (sT calls (.co (.call e1 (.op false (.name .n) (.num 1))) en :: stk) (wt + 1) pd cl q sto) := by
  refine E_fr (by omega) (fun c h => nomatch h) rfl ?_
  rw [Int.add_sub_cancel, wait_sT]
  refine run_opn (r := .int (i - 1)) hn (by show stk.length + 1 ≤ 880; omega) (by show some (Va.int (w32 (i - 1))) = _; rw [w32_ok hi]) ?_
  refine E_fr (c := c) (st' := st') (by omega) (fun c h => nomatch h) ?_ z
  rw [Int.add_sub_cancel]
  show ofO (enter fv (.int (i - 1)) _) = _
  rw [show (sT calls stk wt pd cl (mqs (mq q ⟨wt + 1, pd, cl⟩) [⟨wt + 1 + 1, pd, cl⟩, ⟨wt + 1 + 1, pd, cl⟩]) sto) = (sT calls stk wt pd cl (mqs q [⟨wt + 1, pd, cl⟩, ⟨wt + 1 + 1, pd, cl⟩, ⟨wt + 1 + 1, pd, cl⟩]) sto) from rfl, he] <;> rfl
theorem run_call (hx : look en x = some fv) (hn : look en .n = some (.int i)) (hi : 1 ≤ i ∧ i ≤ 1000) (hl : stk.length ≤ 870) (he : enter fv (.int (i - 1)) (sT calls stk wt pd cl (mqs q (ke wt pd cl)) sto) = some (c, st')) (z : Ends P k c st') :
    Ends P (k + 9) (.ev (.call (.name x) (.op false (.name .n) (.num 1))) en) (sT calls stk wt pd cl q sto) := by
  refine E_ev (c := .ev (.name x) en) (by show stk.length ≤ 900; omega) rfl ?_
  rw [wait_sT]
  refine E_ev (c := .va fv) (by show stk.length + 1 ≤ 900; omega) (by show (look en x).map _ = _; rw [hx] <;> rfl) ?_
  exact run_arg hn hi hl he z
def kg (wt pd cl : Int) : List Q3 := [⟨wt + 1, pd, cl⟩, ⟨wt + 1 + 1, pd, cl⟩, ⟨wt + 1, pd, cl⟩, ⟨wt + 1 + 1, pd, cl⟩, ⟨wt + 1 + 1, pd, cl⟩]
theorem run_callg (hx : look en x = some (.bx a)) (ha : sto a = some fv) (hn : look en .n = some (.int i)) (hi : 1 ≤ i ∧ i ≤ 1000) (hl : stk.length ≤ 870) (he : enter fv (.int (i - 1)) (sT calls stk wt pd cl (mqs q (kg wt pd cl)) sto) = some (c, st')) (z : Ends P k c st') :
    Ends P (k + 11) (.ev (.call (.get (.name x)) (.op false (.name .n) (.num 1))) en) (sT calls stk wt pd cl q sto) := by
  refine E_ev (c := .ev (.get (.name x)) en) (by show stk.length ≤ 900; omega) rfl ?_
  rw [wait_sT]
  refine E_ev (c := .ev (.name x) en) (by show stk.length + 1 ≤ 900; omega) rfl ?_
  rw [wait_sT]
  refine E_ev (c := .va (.bx a)) (by show stk.length + 1 + 1 ≤ 900; omega) (by show (look en x).map _ = _; rw [hx] <;> rfl) ?_
  refine E_fr (c := .va fv) (st' := sT calls (.co (.call (.get (.name x)) (.op false (.name .n) (.num 1))) en :: stk) (wt + 1 + 1 - 1) pd cl (mq (mq q ⟨wt + 1, pd, cl⟩) ⟨wt + 1 + 1, pd, cl⟩) sto) (by show stk.length + 1 < 900; omega) (fun c h => nomatch h) (by show ofO ((sto a).map _) = _; rw [ha] <;> rfl) ?_
  rw [Int.add_sub_cancel]
  exact run_arg hn hi hl he z
end
end Hn.Pl
end

/- HnP7 -/
section
set_option linter.all false
set_option maxRecDepth 100000
/-! Halfnoted, the plain law: the constants' values, the last check. -/
namespace Hn.Pl
/-- what a constant measures -/
def rC : Sx → Int → Int → Int → List Q3
  | .pr e f, wt, pd, cl => ⟨wt + 1, pd, cl⟩ :: (rC e (wt + 1) pd cl ++ ⟨wt + 1, pd, cl⟩ :: rC f (wt + 1) pd cl)
  | .bx e, wt, pd, cl => ⟨wt + 1, pd, cl⟩ :: rC e (wt + 1) pd cl
  | .as _ _, wt, pd, cl => [⟨wt, pd + 1, cl + 2⟩]
  | _, _, _, _ => []
def nC : Sx → Nat
  | .pr e f => nC e + nC f + 3
  | .bx e => nC e + 2
  | .as _ _ => 3
  | _ => 1
/-- the value of a constant -/
def VK : Ty → Sx → Va → Prop
  | .any, _, v => v = .bool true
  | .int, .num i, v => v = .int i
  | .bool, _, v => v = .bool false
  | .unit, _, v => v = .unit
  | .fn _ _, _, v => ∃ o x e en, v = .fn o x e en
  | .pr _ _, _, v => ∃ a b, v = .pr a b
  | .bx _, _, v => ∃ a, v = .bx a
  | _, _, _ => False
theorem begin_cast (n : Int) (A B : Ty) (e : Co) (en : En) (st : MS) : begin (.cast n A B e) en st = if ht A ≤ 50 ∧ ht B ≤ 50 then (chkF FC A B n 1).bind fun c => (addP st c).map fun st' => (.ev e en, st') else none := rfl
theorem E_evS {P : Va → MS → Prop} {k : Nat} {calls wt pd cl : Int} {stk : List Fr} {q : Q3} {sto : Nat → Option Va} {e : Co} {en : En} {c : Nx} {st' : MS} (hl : stk.length ≤ 900) (h : begin e en (sT calls stk wt pd cl q sto) = some (c, st')) (z : Ends P k c st') : Ends P (k + 1) (.ev e en) (sT calls stk wt pd cl q sto) := E_ev hl h z
theorem const_run {A : Ty} {e : Sx} {lc : Co} (h : IsK A e lc) : ∀ {P : Va → MS → Prop} {k : Nat} {calls wt pd cl : Int} {stk : List Fr} {q : Q3} {sto : Nat → Option Va} {en : En}, stk.length + ht A ≤ 860 → (A = .any → ∀ c r, stk ≠ .ck c :: r) →
    (∀ v sto', VK A e v → Ends P k (.va v) (sT calls stk wt pd cl (mqs q (rC e wt pd cl)) sto')) → Ends P (k + nC e) (.ev lc en) (sT calls stk wt pd cl q sto) := by
  induction h with
  | fn x e e' => exact fun hl hs z => E_evS (by omega) rfl (z _ _ ⟨_, _, _, _, rfl⟩)
  | unit => exact fun hl hs z => E_evS (by omega) rfl (z _ _ rfl)
  | bool => exact fun hl hs z => E_evS (by omega) rfl (z _ _ rfl)
  | int i => exact fun hl hs z => E_evS (by omega) rfl (z _ _ rfl)
  | any n =>
    intro P k calls wt pd cl stk q sto en hl hs z
    have d2 : dp (.give (.same .bool)) ≤ FJ := by decide
    have add : addP (sT calls stk wt pd cl q sto) (.give (.same .bool)) = some (sT calls (.ck (.give (.same .bool)) :: stk) wt (pd + 1) (cl + 2) (mq q ⟨wt, pd + 1, cl + 2⟩) sto) := by
      have e1 : addP (sT calls stk wt pd cl q sto) (.give (.same .bool)) = pushP (sT calls stk wt pd cl q sto) (.give (.same .bool)) := by
        unfold addP
        rw [if_pos d2]
        cases stk with
        | nil => rfl
        | cons f r => cases f <;> first | rfl | exact absurd rfl (hs rfl _ _)
      rw [e1]
      show (if dp _ ≤ FJ then some (meas _) else none) = _
      rw [if_pos d2]
      exact congrArg some meas_sT
    refine E_evS (c := .ev (.flag true) en) (st' := sT calls (.ck (.give (.same .bool)) :: stk) wt (pd + 1) (cl + 2) (mq q ⟨wt, pd + 1, cl + 2⟩) sto) (by omega) ?_ ?_
    · rw [begin_cast, if_pos ⟨by decide, by decide⟩]
      show (addP _ (.give (.same .bool))).map _ = _
      rw [add] <;> rfl
    · refine E_evS (c := .va (.bool true)) (by show stk.length + 1 ≤ 900; omega) rfl ?_
      refine E_ck (u := .bool true) (by omega) d2 rfl ?_
      rw [Int.add_sub_cancel, show cl + 2 - size (.give (.same .bool)) = cl by show cl + 2 - (1 + 1) = cl; omega]
      exact z _ _ rfl
  | @pr A B e f e' f' h g ih1 ih2 =>
    intro P k calls wt pd cl stk q sto en hl hs z
    have hh : ht (.pr A B) = max (ht A) (ht B) + 1 := rfl
    have st1 : Ends P (k + 1 + nC f + 1 + nC e + 1) (.ev (.pr e' f') en) (sT calls stk wt pd cl q sto) := by
      refine E_evS (c := .ev e' en) (by omega) rfl ?_
      rw [wait_sT]
      refine ih1 (by show stk.length + 1 + ht A ≤ 860; omega) (fun _ c r k => nomatch k) fun v1 sto1 _ => ?_
      refine E_fr (by omega) (fun c h => nomatch h) rfl ?_
      rw [Int.add_sub_cancel, wait_sT]
      refine ih2 (by show stk.length + 1 + ht B ≤ 860; omega) (fun _ c r k => nomatch k) fun v2 sto2 _ => ?_
      refine E_fr (by omega) (fun c h => nomatch h) rfl ?_
      rw [Int.add_sub_cancel]
      have zz := z (.pr v1 v2) sto2 ⟨_, _, rfl⟩
      rw [show rC (.pr e f) wt pd cl = ⟨wt + 1, pd, cl⟩ :: (rC e (wt + 1) pd cl ++ ⟨wt + 1, pd, cl⟩ :: rC f (wt + 1) pd cl) from rfl, mqs_cons, mqs_app, mqs_cons] at zz
      exact zz
    exact Ends_le st1 (by show _ ≤ k + (nC e + nC f + 3); omega)
  | @bx A e e' h ih =>
    intro P k calls wt pd cl stk q sto en hl hs z
    have hh : ht (.bx A) = ht A + 1 := rfl
    have st1 : Ends P (k + 1 + nC e + 1) (.ev (.bx e') en) (sT calls stk wt pd cl q sto) := by
      refine E_evS (c := .ev e' en) (by omega) rfl ?_
      rw [wait_sT]
      refine ih (by show stk.length + 1 + ht A ≤ 860; omega) (fun _ c r k => nomatch k) fun v1 sto1 _ => ?_
      refine E_al (by omega) (fun c h => nomatch h) rfl fun a ha => ?_
      rw [Int.add_sub_cancel]
      exact z (.bx a) _ ⟨_, rfl⟩
    exact Ends_le st1 (by show _ ≤ k + (nC e + 2); omega)
/-! ### the last check -/
/-- the value of a constant, wrapped or not -/
def VS (A : Ty) (e : Sx) (u : Va) : Prop := VK A e u ∨ ∃ v c, u = .wr v c ∧ VK A e v
theorem er_give {j t : Ck} (h : er j = .give t) : ∃ g, j = .give g ∧ er g = t := by
  cases j <;> first | (injection h; done) | skip
  injection h with h
  exact ⟨_, rfl, h⟩
theorem done_plain {A : Ty} {e : Sx} {Z : Ty} {g : Ck} {v : Va} (hA : A ≠ .any) (h : er g = T0 A A Z) (hv : VK A e v) : (∃ u, doneP g v = some u ∧ VS A e u) ∧ (∃ u, done g v = some u ∧ VS A e u) := by
  cases A with
  | any => exact absurd rfl hA
  | int => cases g <;> first | (injection h; done) | exact ⟨⟨v, rfl, .inl hv⟩, ⟨v, rfl, .inl hv⟩⟩
  | bool => cases g <;> first | (injection h; done) | exact ⟨⟨v, rfl, .inl hv⟩, ⟨v, rfl, .inl hv⟩⟩
  | unit => cases g <;> first | (injection h; done) | exact ⟨⟨v, rfl, .inl hv⟩, ⟨v, rfl, .inl hv⟩⟩
  | fn a b =>
    have hv' := hv
    obtain ⟨o, x, e2, en, rfl⟩ := hv'
    cases g <;> first | (injection h; done) | exact ⟨⟨_, rfl, .inr ⟨_, _, rfl, hv⟩⟩, ⟨_, rfl, .inr ⟨_, _, rfl, hv⟩⟩⟩
  | pr a b =>
    have hv' := hv
    obtain ⟨x, y, rfl⟩ := hv'
    cases g <;> first | (injection h; done) | exact ⟨⟨_, rfl, .inr ⟨_, _, rfl, hv⟩⟩, ⟨_, rfl, .inr ⟨_, _, rfl, hv⟩⟩⟩
  | bx a =>
    have hv' := hv
    obtain ⟨x, rfl⟩ := hv'
    cases g <;> first | (injection h; done) | exact ⟨⟨_, rfl, .inr ⟨_, _, rfl, hv⟩⟩, ⟨_, rfl, .inr ⟨_, _, rfl, hv⟩⟩⟩
theorem done_last {A Z : Ty} {e : Sx} {j : Ck} {v : Va} (hA : A ≠ .any) (h : er j = T3 A A Z) (hv : VK A e v) : ∃ u, done j v = some u ∧ VS A e u := by
  rw [T3_eq hA] at h
  unfold tk gv at h
  rw [if_neg hA] at h
  by_cases hz : Z = .any
  · rw [if_pos hz] at h
    obtain ⟨g, rfl, hg⟩ := er_give h
    exact (done_plain hA hg hv).1
  · rw [if_neg hz] at h
    exact (done_plain hA h hv).2
/-- a constant's value comes back through the pending check -/
theorem last_run {P : Va → MS → Prop} {A Z : Ty} {e : Sx} {p : Option Ck} {calls : Int} {q : Q3} {sto : Nat → Option Va} {v : Va} (hp : Rp p A A Z) (hA : ht A ≤ 4) (ha : A = .any → p = none) (hv : VK A e v) (z : ∀ u calls sto, VS A e u → P u (sT calls [] 0 0 0 q sto)) : Ends P 2 (.va v) (tl calls p q sto) := by
  cases p with
  | none => exact Ends_succ _ (E_fin (z v _ _ (.inl hv)))
  | some j =>
    have hn : A ≠ .any := fun k => nomatch ha k
    obtain ⟨u, hu, su⟩ := done_last hn hp.1 hv
    refine E_ck (stk := []) (by decide) (hp.dp hA) hu ?_
    show Ends P 1 _ (sT calls [] 0 (1 - 1) (size j - size j) q sto)
    rw [Int.sub_self, Int.sub_self]
    exact E_fin (z u _ _ su)
end Hn.Pl
end

/- HnP8 -/
section
set_option linter.all false
set_option maxRecDepth 100000
/-! Halfnoted, the plain law: the loop of one function. -/
namespace Hn.Pl
def wl (A R Z : Ty) (f : Bool) : List Q3 := ce .any A A Z ++ (ce (if f then A else R) .any A Z ++ if f then ce R A A Z else [])
theorem way_tl {p : Option Ck} {A R Z : Ty} (f : Bool) (k1 k2 k3 : Int) (hp : Rp p A A Z) (hA : ht A ≤ 4) (hR : le R A) (ha : A = .any → p = none) : ∃ p3, Rp p3 A R Z ∧ (A = .any → p3 = none) ∧ (A ≠ .any → p3 ≠ none) ∧
    ∀ (P : Va → MS → Prop) (k : Nat) (calls : Int) (q : Q3) (sto : Nat → Option Va) (agc : Co) (en : En), Ends P k (.ev (.call agc (.op false (.name .n) (.num 1))) en) (tl calls p3 (mqs q (wl A R Z f)) sto) → Ends P (k + 3) (.ev (wayC agc A R f k1 k2 k3) en) (tl calls p q sto) := by
  have sAA : Sup A A A := .inl ⟨rfl, le_refl A⟩
  obtain ⟨p1, r1, g1, n1, z1⟩ := ci_tl k2 hp sup_any_l sAA hA
  have s1 : A ≠ .any → p1 ≠ none := fun h => n1 fun e => h e.symm
  cases f with
  | false =>
    obtain ⟨p2, r2, g2, n2, z2⟩ := ci_tl (Y := R) k1 r1 sup_any_r (.inr ⟨rfl, hR⟩) hA
    refine ⟨p2, r2, fun e => ?_, fun e => ?_, fun P k calls q sto agc en z => ?_⟩
    · subst e
      rw [g2 (any_le hR), g1 rfl, ha rfl]
    · by_cases h : R = .any
      · rw [g2 h]; exact s1 e
      · exact n2 h
    · refine Ends_le (z1 P (k + 1) calls q sto _ en (z2 P k calls _ sto _ en ?_)) (by omega)
      have e : mqs q (wl A R Z false) = mqs (mqs q (ce .any A A Z)) (ce R .any A Z) := by
        show mqs q (ce .any A A Z ++ (ce R .any A Z ++ [])) = _
        rw [List.append_nil, mqs_app]
      rw [e] at z
      exact z
  | true =>
    obtain ⟨p2, r2, g2, n2, z2⟩ := ci_tl (Y := A) k1 r1 sup_any_r sAA hA
    obtain ⟨p3, r3, g3, n3, z3⟩ := ci_tl (Y := R) k3 r2 (.inr ⟨rfl, hR⟩) sAA hA
    refine ⟨p3, r3, fun e => ?_, fun e => ?_, fun P k calls q sto agc en z => ?_⟩
    · subst e
      rw [g3 (any_le hR), g2 rfl, g1 rfl, ha rfl]
    · by_cases h : R = A
      · rw [g3 h]; exact n2 e
      · exact n3 h
    · refine z1 P (k + 2) calls q sto _ en (z2 P (k + 1) calls _ sto _ en (z3 P k calls _ sto _ en ?_))
      have e : mqs q (wl A R Z true) = mqs (mqs (mqs q (ce .any A A Z)) (ce A .any A Z)) (ce R A A Z) := by
        show mqs q (ce .any A A Z ++ (ce A .any A Z ++ ce R A A Z)) = _
        rw [mqs_app, mqs_app]
      rw [e] at z
      exact z
def pdB (b : Bool) : Int := if b then 1 else 0
def clB (b : Bool) (Q X Z : Ty) : Int := if b then size (T3 Q X Z) else 0
theorem pd_of (p : Option Ck) : pdP p = pdB p.isSome := by cases p <;> rfl
theorem cl_of {p : Option Ck} {Q X Z : Ty} (h : Rp p Q X Z) : clP p = clB p.isSome Q X Z := by
  cases p with
  | none => rfl
  | some j => exact h.size
def bA (A : Ty) : Bool := if A = .any then false else true
theorem bA_of {A : Ty} {p : Option Ck} (h1 : A = .any → p = none) (h2 : A ≠ .any → p ≠ none) : p.isSome = bA A := by
  unfold bA
  by_cases h : A = .any
  · rw [if_pos h, h1 h] <;> rfl
  · rw [if_neg h]
    cases p with
    | none => exact absurd rfl (h2 h)
    | some j => rfl
/-- the status behind the cast of the body -/
def b1 (A N : Ty) (b : Bool) : Bool := if A = N then b else true
def evA (A N : Ty) (e : Sx) (f : Bool) : Nat → Bool → List Q3
  | 0, b => ce A N A N ++ (te 0 (pdB (b1 A N b)) (clB (b1 A N b) A A N) ++ rC e 0 (pdB (b1 A N b)) (clB (b1 A N b) A A N))
  | i + 1, b => ce A N A N ++ (te 0 (pdB (b1 A N b)) (clB (b1 A N b) A A N) ++ (wl A N N f ++ (ke 0 (pdB (bA A)) (clB (bA A) A N N) ++ evA A N e f i (bA A))))
def bodyA (A N : Ty) (lc : Co) (f : Bool) (k0 k1 k2 k3 : Int) : Co := ci k0 A N (bodyC (.name .h) lc A N f k1 k2 k3)
def funA (A N : Ty) (lc : Co) (f : Bool) (k0 k1 k2 k3 : Int) : Va := .fn (some .h) .n (bodyA A N lc f k0 k1 k2 k3) .nil
def envA (A N : Ty) (lc : Co) (f : Bool) (k0 k1 k2 k3 : Int) (i : Int) : En := .cons .n (.int i) (.cons .h (funA A N lc f k0 k1 k2 k3) .nil)
theorem loopA_run {A N : Ty} {e : Sx} {lc : Co} {f : Bool} {k0 k1 k2 k3 : Int} {P : Va → MS → Prop} (hK : IsK A e lc) (hA : ht A ≤ 4) (hN : le N A) : ∀ (i : Nat) (p : Option Ck) (Q : Ty) (calls : Int) (q : Q3) (sto : Nat → Option Va), i ≤ 900 → (i : Int) ≤ calls → Rp p Q N N → le Q A → (A = .any → p = none) →
    (∀ u calls sto, VS A e u → P u (sT calls [] 0 0 0 (mqs q (evA A N e f i p.isSome)) sto)) → ∃ k, Ends P k (.ev (bodyA A N lc f k0 k1 k2 k3) (envA A N lc f k0 k1 k2 k3 i)) (tl calls p q sto) := by
  intro i
  induction i with
  | zero =>
    intro p Q calls q sto hi hc hp hQ ha z
    obtain ⟨p1, r1, g1, n1, z1⟩ := ci_tl (Y := A) k0 hp (.inl ⟨rfl, hN⟩) (.inl ⟨rfl, hQ⟩) hA
    have hb : p1.isSome = b1 A N p.isSome := by
      unfold b1
      by_cases h : A = N
      · rw [if_pos h, g1 h]
      · rw [if_neg h]
        cases p1 with
        | none => exact absurd rfl (n1 h)
        | some j => rfl
    have ha1 : A = .any → p1 = none := fun h => by
      have : N = .any := by subst h; exact any_le hN
      rw [g1 (h.trans this.symm), ha h]
    refine ⟨_, z1 P (2 + nC e + 7) calls q sto _ _ (run_test (i := 0) rfl (Nat.le_trans (stkP_len p1) (by decide)) ?_)⟩
    refine const_run hK (by have := stkP_len p1; omega) (fun h c r k => ?_) fun v sto' hv => last_run r1 hA ha1 hv fun u calls sto hu => ?_
    · rw [ha1 h] at k; cases k
    · have zz := z u calls sto hu
      have e1 : evA A N e f 0 p.isSome = ce A N A N ++ (te 0 (pdP p1) (clP p1) ++ rC e 0 (pdP p1) (clP p1)) := by
        rw [pd_of, cl_of r1, hb] <;> rfl
      rw [e1, mqs_app, mqs_app] at zz
      exact zz
  | succ i ih =>
    intro p Q calls q sto hi hc hp hQ ha z
    obtain ⟨p1, r1, g1, n1, z1⟩ := ci_tl (Y := A) k0 hp (.inl ⟨rfl, hN⟩) (.inl ⟨rfl, hQ⟩) hA
    have hb : p1.isSome = b1 A N p.isSome := by
      unfold b1
      by_cases h : A = N
      · rw [if_pos h, g1 h]
      · rw [if_neg h]
        cases p1 with
        | none => exact absurd rfl (n1 h)
        | some j => rfl
    have ha1 : A = .any → p1 = none := fun h => by
      have : N = .any := by subst h; exact any_le hN
      rw [g1 (h.trans this.symm), ha h]
    obtain ⟨p3, r3, a3, s3, z3⟩ := way_tl f k1 k2 k3 r1 hA hN ha1
    have hb3 := bA_of a3 s3
    obtain ⟨k, hk⟩ := ih p3 A (calls - 1) (mqs (mqs (mqs (mqs q (ce A N A N)) (te 0 (pdP p1) (clP p1))) (wl A N N f)) (ke 0 (pdP p3) (clP p3))) sto (by omega) (by omega) r3 (le_refl A) a3 fun u calls sto hu => by
      have zz := z u calls sto hu
      have e1 : evA A N e f (i + 1) p.isSome = ce A N A N ++ (te 0 (pdP p1) (clP p1) ++ (wl A N N f ++ (ke 0 (pdP p3) (clP p3) ++ evA A N e f i p3.isSome))) := by
        rw [pd_of, cl_of r1, hb, pd_of, cl_of r3, hb3] <;> rfl
      rw [e1, mqs_app, mqs_app, mqs_app, mqs_app] at zz
      exact zz
    have t0 : decide (((i + 1 : Nat) : Int) < 1) = false := decide_eq_false (by omega)
    refine ⟨_, z1 P (k + 9 + 3 + 7) calls q sto _ _ (run_test (i := ((i + 1 : Nat) : Int)) rfl (Nat.le_trans (stkP_len p1) (by decide)) ?_)⟩
    rw [t0]
    refine z3 P (k + 9) calls _ sto _ _ (run_call (x := .h) (fv := funA A N lc f k0 k1 k2 k3) (i := ((i + 1 : Nat) : Int)) rfl rfl ⟨by omega, by omega⟩ (Nat.le_trans (stkP_len p3) (by decide)) ?_ hk)
    show (if calls = 0 then none else some _) = _
    rw [if_neg (by omega)]
    have ei : ((i + 1 : Nat) : Int) - 1 = (i : Int) := by omega
    rw [ei] <;> rfl
end Hn.Pl
end

/- HnP9 -/
section
set_option linter.all false
set_option maxRecDepth 100000
namespace Hn.Pl
def Q3.le (q r : Q3) : Prop := q.a ≤ r.a ∧ q.b ≤ r.b ∧ q.c ≤ r.c
theorem Q3.anti {q r : Q3} (h : q.le r) (g : r.le q) : q = r := by
  obtain ⟨a, b, c⟩ := q
  obtain ⟨a', b', c'⟩ := r
  obtain ⟨h1, h2, h3⟩ := h
  obtain ⟨g1, g2, g3⟩ := g
  have e1 : a = a' := Int.le_antisymm h1 g1
  have e2 : b = b' := Int.le_antisymm h2 g2
  have e3 : c = c' := Int.le_antisymm h3 g3
  rw [e1, e2, e3]
theorem Q3.trans {q r s : Q3} (h : q.le r) (g : r.le s) : q.le s := ⟨Int.le_trans h.1 g.1, Int.le_trans h.2.1 g.2.1, Int.le_trans h.2.2 g.2.2⟩
theorem mq_l (q r : Q3) : q.le (mq q r) := ⟨Int.le_max_left .., Int.le_max_left .., Int.le_max_left ..⟩
theorem mq_r (q r : Q3) : r.le (mq q r) := ⟨Int.le_max_right .., Int.le_max_right .., Int.le_max_right ..⟩
theorem mqs_q : ∀ (l : List Q3) (q : Q3), q.le (mqs q l)
  | [], q => ⟨Int.le_refl _, Int.le_refl _, Int.le_refl _⟩
  | x :: l, q => Q3.trans (mq_l q x) (mqs_q l (mq q x))
theorem mqs_x : ∀ (l : List Q3) (q x : Q3), x ∈ l → x.le (mqs q l)
  | y :: l, q, x, h => by
    rcases List.mem_cons.mp h with rfl | h
    · exact Q3.trans (mq_r q x) (mqs_q l _)
    · exact mqs_x l _ x h
theorem mqs_lub : ∀ (l : List Q3) (q r : Q3), q.le r → (∀ x ∈ l, x.le r) → (mqs q l).le r
  | [], q, r, h, _ => h
  | x :: l, q, r, h, g => by
    have gx := g x (List.mem_cons_self ..)
    exact mqs_lub l _ r ⟨Int.max_le.mpr ⟨h.1, gx.1⟩, Int.max_le.mpr ⟨h.2.1, gx.2.1⟩, Int.max_le.mpr ⟨h.2.2, gx.2.2⟩⟩ fun y hy => g y (List.mem_cons_of_mem _ hy)
/-- what is measured hangs on what there is to measure alone -/
theorem mqs_eq {q : Q3} {l m : List Q3} (h : ∀ x, x ∈ l ↔ x ∈ m) : mqs q l = mqs q m :=
  Q3.anti (mqs_lub l q _ (mqs_q m q) fun x hx => mqs_x m q x ((h x).mp hx)) (mqs_lub m q _ (mqs_q l q) fun x hx => mqs_x l q x ((h x).mpr hx))
/-! ### one function -/
theorem evA_mem {A N : Ty} {e : Sx} {f : Bool} (x : Q3) : ∀ i, x ∈ evA A N e f (i + 1) (bA A) ↔ x ∈ evA A N e f 1 (bA A)
  | 0 => Iff.rfl
  | i + 1 => by
    have ih := evA_mem (A := A) (N := N) (e := e) (f := f) x i
    have e1 : evA A N e f (i + 1 + 1) (bA A) = ce A N A N ++ (te 0 (pdB (b1 A N (bA A))) (clB (b1 A N (bA A)) A A N) ++ (wl A N N f ++ (ke 0 (pdB (bA A)) (clB (bA A) A N N) ++ evA A N e f (i + 1) (bA A)))) := rfl
    have e2 : evA A N e f 1 (bA A) = ce A N A N ++ (te 0 (pdB (b1 A N (bA A))) (clB (b1 A N (bA A)) A A N) ++ (wl A N N f ++ (ke 0 (pdB (bA A)) (clB (bA A) A N N) ++ evA A N e f 0 (bA A)))) := rfl
    rw [e1]
    simp only [List.mem_append]
    rw [ih, e2]
    simp only [List.mem_append]
    constructor
    · rintro (h | h | h | h | h) <;> first | exact .inl h | exact .inr (.inl h) | exact .inr (.inr (.inl h)) | exact .inr (.inr (.inr (.inl h))) | exact h
    · exact fun h => .inr (.inr (.inr (.inr h)))
theorem evA_mem0 {A N : Ty} {e : Sx} {f b : Bool} (x : Q3) (i : Nat) : x ∈ evA A N e f (i + 2) b ↔ x ∈ evA A N e f 2 b := by
  have ih := evA_mem (A := A) (N := N) (e := e) (f := f) x i
  have e1 : evA A N e f (i + 2) b = ce A N A N ++ (te 0 (pdB (b1 A N b)) (clB (b1 A N b) A A N) ++ (wl A N N f ++ (ke 0 (pdB (bA A)) (clB (bA A) A N N) ++ evA A N e f (i + 1) (bA A)))) := rfl
  have e2 : evA A N e f 2 b = ce A N A N ++ (te 0 (pdB (b1 A N b)) (clB (b1 A N b) A A N) ++ (wl A N N f ++ (ke 0 (pdB (bA A)) (clB (bA A) A N N) ++ evA A N e f 1 (bA A)))) := rfl
  rw [e1, e2]
  simp only [List.mem_append]
  rw [ih]
def iA : Q3 := mqs ⟨0, 0, 0⟩ [⟨0 + 1, 0, 0⟩, ⟨0 + 1, 0, 0⟩]
/-- the loop of one function ends, and what it measures is the same for all counts -/
theorem mainA {A N : Ty} {e : Sx} {lc : Co} {f : Bool} {k0 k1 k2 k3 : Int} (hK : IsK A e lc) (hA : ht A ≤ 4) (hN : le N A) {P : Va → MS → Prop} (c : Nat) (h2 : 2 ≤ c) (h9 : c ≤ 900) (calls : Int) (hc : (c : Int) + 1 ≤ calls)
    (z : ∀ u calls sto, VS A e u → P u (sT calls [] 0 0 0 (mqs iA (evA A N e f 2 false)) sto)) : ∃ k, Ends P k (.ev (.call (.rc .h .n .int N (bodyA A N lc f k0 k1 k2 k3)) (.num c)) .nil) (start calls) := by
  obtain ⟨i, rfl⟩ : ∃ i, c = i + 2 := ⟨c - 2, by omega⟩
  obtain ⟨k, hk⟩ := loopA_run (f := f) (k0 := k0) (k1 := k1) (k2 := k2) (k3 := k3) (P := P) hK hA hN (i + 2) none N (calls - 1) iA (fun _ => none) h9 (by omega) ⟨rfl, rfl⟩ hN (fun _ => rfl) fun u calls sto hu => by
    have e1 : mqs iA (evA A N e f (i + 2) (none : Option Ck).isSome) = mqs iA (evA A N e f 2 false) := mqs_eq fun x => evA_mem0 x i
    rw [e1]
    exact z u calls sto hu
  have s1 : Ends P (k + 1 + 1 + 1 + 1 + 1) (.ev (.call (.rc .h .n .int N (bodyA A N lc f k0 k1 k2 k3)) (.num ((i + 2 : Nat) : Int))) .nil) (sT calls [] 0 0 0 ⟨0, 0, 0⟩ (fun _ => none)) := by
    refine E_evS (c := .ev (.rc .h .n .int N (bodyA A N lc f k0 k1 k2 k3)) .nil) (by decide) rfl ?_
    rw [wait_sT]
    refine E_evS (c := .va (funA A N lc f k0 k1 k2 k3)) (by show 1 ≤ 900; decide) rfl ?_
    refine E_fr (by show 0 < 900; decide) (fun c h => nomatch h) rfl ?_
    rw [Int.add_sub_cancel, wait_sT]
    refine E_evS (c := .va (.int ((i + 2 : Nat) : Int))) (by show 1 ≤ 900; decide) rfl ?_
    refine E_fr (c := .ev (bodyA A N lc f k0 k1 k2 k3) (envA A N lc f k0 k1 k2 k3 ((i + 2 : Nat) : Int))) (st' := tl (calls - 1) none iA (fun _ => none)) (by show 0 < 900; decide) (fun c h => nomatch h) ?_ hk
    rw [Int.add_sub_cancel]
    show ofO (if calls = 0 then none else some _) = _
    rw [if_neg (by omega)] <;> rfl
  exact ⟨_, s1⟩
end Hn.Pl
end

/- HnP10 -/
section
set_option linter.all false
set_option maxRecDepth 100000
/-! Halfnoted, the plain law: the loop of two functions. -/
namespace Hn.Pl
section
variable {A N : Ty} {e : Sx} {l1 l2 : Co} {f g : Bool} {k1 k2 k3 k5 k6 k7 : Int} {P : Va → MS → Prop}
def bd1 (A N : Ty) (l1 : Co) (f : Bool) (k1 k2 k3 : Int) : Co := bodyC (.get (.name .b)) l1 A N f k1 k2 k3
def bd2 (A : Ty) (l2 : Co) (g : Bool) (k5 k6 k7 : Int) : Co := bodyC (.name .o) l2 A A g k5 k6 k7
def one (b1 : Co) (a : Nat) : Va := .fn none .n b1 (.cons .b (.bx a) .nil)
def two (b1 b2 : Co) (a : Nat) : Va := .fn none .n b2 (.cons .o (one b1 a) (.cons .b (.bx a) .nil))
def en1 (a : Nat) (i : Int) : En := .cons .n (.int i) (.cons .b (.bx a) .nil)
def en2 (b1 : Co) (a : Nat) (i : Int) : En := .cons .n (.int i) (.cons .o (one b1 a) (.cons .b (.bx a) .nil))
/-- v, given the type fn int N -/
def Wr (A N : Ty) (v u : Va) : Prop := (A = N ∧ u = v) ∨ (A ≠ N ∧ ∃ s t, u = .wr v (.fn s t) ∧ er s = .same .int ∧ er t = T3 A A N)
def evB (A N : Ty) (e : Sx) (f g : Bool) : Nat → Bool → Bool → List Q3
  | 0, _, b => te 0 (pdB b) (clB b A A A) ++ rC e 0 (pdB b) (clB b A A A)
  | i + 1, true, b => te 0 (pdB b) (clB b A A A) ++ (wl A N A f ++ (kg 0 (pdB (bA A)) (clB (bA A) A N A) ++ (ce A N A A ++ evB A N e f g i false (bA A))))
  | i + 1, false, b => te 0 (pdB b) (clB b A A A) ++ (wl A A A g ++ (ke 0 (pdB (bA A)) (clB (bA A) A A A) ++ evB A N e f g i true (bA A)))
theorem enter_two {b1 b2 : Co} {a : Nat} {v : Va} {p : Option Ck} (hA : ht A ≤ 4) (hN : le N A) (hv : Wr A N (two b1 b2 a) v) (hp : Rp p A N A) (h1 : A = .any → p = none) (h2 : A ≠ .any → p ≠ none) : ∃ p', Rp p' A A A ∧ (A = .any → p' = none) ∧ (A ≠ .any → p' ≠ none) ∧
    ∀ (i calls : Int) (q : Q3) (sto : Nat → Option Va), calls ≠ 0 → enter v (.int i) (tl calls p q sto) = some (.ev b2 (en2 b1 a i), tl (calls - 1) p' (mqs q (ce A N A A)) sto) := by
  rcases hv with ⟨rfl, rfl⟩ | ⟨hn, s, t, rfl, hs, ht'⟩
  · refine ⟨p, hp, h1, h2, fun i calls q sto hc => ?_⟩
    show (if calls = 0 then none else some _) = _
    rw [if_neg hc]
    unfold ce
    rw [if_pos rfl] <;> rfl
  · have sAA : Sup A A A := .inl ⟨rfl, le_refl A⟩
    obtain ⟨j, hj, add⟩ := add_tl hp (le_refl A) hN sAA hA hA hA ht'
    have hna : A ≠ .any := fun z => by subst z; exact hn (any_le hN).symm
    refine ⟨some j, hj, fun z => absurd z hna, (fun _ z => nomatch z), fun i calls q sto hc => ?_⟩
    have es : s = .same .int := by
      cases s <;> first | (injection hs with hs; rw [hs]; done) | cases hs
    subst es
    show (addP (tl calls p q sto) t).bind _ = _
    rw [add]
    show (if calls = 0 then none else some _) = _
    rw [if_neg hc]
    unfold ce
    rw [if_neg hn] <;> rfl
theorem loopB_run (hK1 : IsK A e l1) (hK2 : IsK A e l2) (hA : ht A ≤ 4) (hN : le N A) : ∀ (i : Nat), ∃ k, ∀ (a : Nat) (sd : Bool) (p : Option Ck) (calls : Int) (q : Q3) (sto : Nat → Option Va), i ≤ 900 → (i : Int) ≤ calls → Rp p A A A → (A = .any → p = none) →
    (∃ v, sto a = some v ∧ Wr A N (two (bd1 A N l1 f k1 k2 k3) (bd2 A l2 g k5 k6 k7) a) v) → (∀ u calls sto, VS A e u → P u (sT calls [] 0 0 0 (mqs q (evB A N e f g i sd p.isSome)) sto)) →
    Ends P k (.ev (if sd then bd1 A N l1 f k1 k2 k3 else bd2 A l2 g k5 k6 k7) (if sd then en1 a i else en2 (bd1 A N l1 f k1 k2 k3) a i)) (tl calls p q sto) := by
  intro i
  induction i with
  | zero =>
    refine ⟨2 + nC e + 7, fun a sd p calls q sto hi hc hp ha hs z => ?_⟩
    have fin : ∀ lc, IsK A e lc → ∀ en, Ends P (2 + nC e) (.ev lc en) (tl calls p (mqs q (te 0 (pdP p) (clP p))) sto) := fun lc hK en =>
      const_run hK (by have := stkP_len p; omega) (fun h c r k => by rw [ha h] at k; cases k) fun v sto' hv => last_run hp hA ha hv fun u calls sto hu => by
        have zz := z u calls sto hu
        have e1 : evB A N e f g 0 sd p.isSome = te 0 (pdP p) (clP p) ++ rC e 0 (pdP p) (clP p) := by
          rw [pd_of, cl_of hp] <;> rfl
        rw [e1, mqs_app] at zz
        exact zz
    cases sd with
    | true => exact run_test (i := 0) rfl (Nat.le_trans (stkP_len p) (by decide)) (fin l1 hK1 _)
    | false => exact run_test (i := 0) rfl (Nat.le_trans (stkP_len p) (by decide)) (fin l2 hK2 _)
  | succ i ih =>
    obtain ⟨k, ih⟩ := ih
    refine ⟨k + 11 + 3 + 7, fun a sd p calls q sto hi hc hp ha hs z => ?_⟩
    have t0 : decide (((i + 1 : Nat) : Int) < 1) = false := decide_eq_false (by omega)
    have ei : ((i + 1 : Nat) : Int) - 1 = (i : Int) := by omega
    obtain ⟨v, hv, hw⟩ := hs
    cases sd with
    | true =>
      obtain ⟨p3, r3, a3, s3, z3⟩ := way_tl f k1 k2 k3 hp hA hN ha
      have hb3 := bA_of a3 s3
      obtain ⟨p4, r4, a4, s4, z4⟩ := enter_two hA hN hw r3 a3 s3
      have hb4 := bA_of a4 s4
      have hk := ih a false p4 (calls - 1) (mqs (mqs (mqs (mqs q (te 0 (pdP p) (clP p))) (wl A N A f)) (kg 0 (pdP p3) (clP p3))) (ce A N A A)) sto (by omega) (by omega) r4 a4 ⟨v, hv, hw⟩ fun u calls sto hu => by
        have zz := z u calls sto hu
        have e1 : evB A N e f g (i + 1) true p.isSome = te 0 (pdP p) (clP p) ++ (wl A N A f ++ (kg 0 (pdP p3) (clP p3) ++ (ce A N A A ++ evB A N e f g i false p4.isSome))) := by
          rw [pd_of, cl_of hp, pd_of, cl_of r3, hb3, hb4] <;> rfl
        rw [e1, mqs_app, mqs_app, mqs_app, mqs_app] at zz
        exact zz
      refine run_test (k := k + 11 + 3) (i := ((i + 1 : Nat) : Int)) rfl (Nat.le_trans (stkP_len p) (by decide)) ?_
      rw [t0]
      refine z3 P (k + 11) calls _ sto _ _ (run_callg (x := .b) (a := a) (fv := v) (i := ((i + 1 : Nat) : Int)) rfl hv rfl ⟨by omega, by omega⟩ (Nat.le_trans (stkP_len p3) (by decide)) ?_ hk)
      rw [ei]
      exact z4 _ _ _ _ (by omega)
    | false =>
      obtain ⟨p3, r3, a3, s3, z3⟩ := way_tl g k5 k6 k7 hp hA (le_refl A) ha
      have hb3 := bA_of a3 s3
      have hk := ih a true p3 (calls - 1) (mqs (mqs (mqs q (te 0 (pdP p) (clP p))) (wl A A A g)) (ke 0 (pdP p3) (clP p3))) sto (by omega) (by omega) r3 a3 ⟨v, hv, hw⟩ fun u calls sto hu => by
        have zz := z u calls sto hu
        have e1 : evB A N e f g (i + 1) false p.isSome = te 0 (pdP p) (clP p) ++ (wl A A A g ++ (ke 0 (pdP p3) (clP p3) ++ evB A N e f g i true p3.isSome)) := by
          rw [pd_of, cl_of hp, pd_of, cl_of r3, hb3] <;> rfl
        rw [e1, mqs_app, mqs_app, mqs_app] at zz
        exact zz
      refine Ends_le (run_test (k := k + 9 + 3) (i := ((i + 1 : Nat) : Int)) rfl (Nat.le_trans (stkP_len p) (by decide)) ?_) (by omega)
      rw [t0]
      refine z3 P (k + 9) calls _ sto _ _ (run_call (x := .o) (fv := one (bd1 A N l1 f k1 k2 k3) a) (i := ((i + 1 : Nat) : Int)) rfl rfl ⟨by omega, by omega⟩ (Nat.le_trans (stkP_len p3) (by decide)) ?_ hk)
      rw [ei]
      show (if calls = 0 then none else some _) = _
      rw [if_neg (by omega)] <;> rfl
end
end Hn.Pl
end

/- HnP11 -/
section
set_option linter.all false
set_option maxRecDepth 100000
set_option maxHeartbeats 1000000
namespace Hn.Pl
theorem evB_mem {A N : Ty} {e : Sx} {f g : Bool} (x : Q3) : ∀ (n : Nat) (sd : Bool), x ∈ evB A N e f g (n + 2) sd (bA A) ↔ x ∈ evB A N e f g 2 true (bA A)
  | 0, true => Iff.rfl
  | 0, false => by
    simp only [evB, List.mem_append]
    grind
  | n + 1, true => by
    have ih := evB_mem (A := A) (N := N) (e := e) (f := f) (g := g) x n false
    rw [show evB A N e f g (n + 1 + 2) true (bA A) = te 0 (pdB (bA A)) (clB (bA A) A A A) ++ (wl A N A f ++ (kg 0 (pdB (bA A)) (clB (bA A) A N A) ++ (ce A N A A ++ evB A N e f g (n + 2) false (bA A)))) from rfl]
    simp only [List.mem_append]
    rw [ih]
    simp only [evB, List.mem_append]
    grind
  | n + 1, false => by
    have ih := evB_mem (A := A) (N := N) (e := e) (f := f) (g := g) x n true
    rw [show evB A N e f g (n + 1 + 2) false (bA A) = te 0 (pdB (bA A)) (clB (bA A) A A A) ++ (wl A A A g ++ (ke 0 (pdB (bA A)) (clB (bA A) A A A) ++ evB A N e f g (n + 2) true (bA A))) from rfl]
    simp only [List.mem_append]
    rw [ih]
    simp only [evB, List.mem_append]
    grind
theorem evB_mem0 {A N : Ty} {e : Sx} {f g b : Bool} (x : Q3) (n : Nat) : x ∈ evB A N e f g (n + 3) true b ↔ x ∈ evB A N e f g 3 true b := by
  have h1 := evB_mem (A := A) (N := N) (e := e) (f := f) (g := g) x n false
  have h2 := evB_mem (A := A) (N := N) (e := e) (f := f) (g := g) x 0 false
  rw [show evB A N e f g (n + 3) true b = te 0 (pdB b) (clB b A A A) ++ (wl A N A f ++ (kg 0 (pdB (bA A)) (clB (bA A) A N A) ++ (ce A N A A ++ evB A N e f g (n + 2) false (bA A)))) from rfl,
    show evB A N e f g 3 true b = te 0 (pdB b) (clB b A A A) ++ (wl A N A f ++ (kg 0 (pdB (bA A)) (clB (bA A) A N A) ++ (ce A N A A ++ evB A N e f g (0 + 2) false (bA A)))) from rfl]
  simp only [List.mem_append]
  rw [h1, h2]
/-- a function that is cast at a place that is no tail place -/
def cn (A N : Ty) (wt pd cl : Int) : List Q3 := if A = N then [] else [⟨wt, pd + 1, cl + size (T3 (.fn .int A) (.fn .int A) (.fn .int N))⟩]
theorem cin_run {A N : Ty} {P : Va → MS → Prop} {k : Nat} {calls wt pd cl : Int} {stk : List Fr} {q : Q3} {sto : Nat → Option Va} {en : En} {n : Int} {b : Co} (hA : ht A ≤ 3) (hN : le N A) (hl : stk.length ≤ 800) (hs : ∀ c r, stk ≠ .ck c :: r)
    (z : ∀ u, Wr A N (.fn none .n b en) u → Ends P k (.va u) (sT calls stk wt pd cl (mqs q (cn A N wt pd cl)) sto)) : Ends P (k + 3) (.ev (ci n (.fn .int A) (.fn .int N) (.fn .n .int b)) en) (sT calls stk wt pd cl q sto) := by
  unfold cn at z
  by_cases h : A = N
  · subst h
    rw [if_pos rfl] at z
    rw [ci_refl]
    exact Ends_le (E_evS (c := .va (.fn none .n b en)) (by omega) rfl (z _ (.inl ⟨rfl, rfl⟩))) (by omega)
  · rw [if_neg h] at z
    have hfn : (.fn .int A : Ty) ≠ .fn .int N := fun z => by injection z with _ z; exact h z
    have hF : ht (.fn .int A) ≤ 4 := by show max 0 (ht A) + 1 ≤ 4; omega
    have hG : ht (.fn .int N) ≤ 4 := by have := le_ht hN; show max 0 (ht N) + 1 ≤ 4; omega
    obtain ⟨c, hc, ec⟩ := chk_T3 _ (.fn .int A) (Nat.le_refl _) FC (.fn .int A) (.fn .int N) n 1 (.inl ⟨rfl, ⟨trivial, hN⟩⟩) (by show 2 * ht (.fn .int A) + 2 ≤ 12; omega)
    have dc : dp c ≤ FJ := by
      rw [← dp_er, ec]
      have := dp_T3 (.fn .int A) (.fn .int A) (.fn .int N)
      show _ ≤ 24
      omega
    have sc : size c = size (T3 (.fn .int A) (.fn .int A) (.fn .int N)) := by rw [← size_er, ec]
    have shape : ∃ s t, c = .fn s t ∧ er s = .same .int ∧ er t = T3 A A N := by
      have n1 : (Ty.fn .int A) ≠ .any := fun z => by cases z
      have n2 : (Ty.fn .int N) ≠ .any := fun z => by cases z
      rw [T3_eq n1] at ec
      unfold tk gv at ec
      rw [if_neg n1, if_neg n2] at ec
      cases c <;> first | (injection ec; done) | skip
      injection ec with e1 e2
      exact ⟨_, _, rfl, e1, e2⟩
    have add : addP (sT calls stk wt pd cl q sto) c = some (sT calls (.ck c :: stk) wt (pd + 1) (cl + size c) (mq q ⟨wt, pd + 1, cl + size c⟩) sto) := by
      have e1 : addP (sT calls stk wt pd cl q sto) c = pushP (sT calls stk wt pd cl q sto) c := by
        unfold addP
        rw [if_pos dc]
        cases stk with
        | nil => rfl
        | cons f r => cases f <;> first | rfl | exact absurd rfl (hs _ _)
      rw [e1]
      show (if dp _ ≤ FJ then some (meas _) else none) = _
      rw [if_pos dc]
      exact congrArg some meas_sT
    unfold ci
    rw [if_neg hfn]
    refine E_evS (c := .ev (.fn .n .int b) en) (st' := sT calls (.ck c :: stk) wt (pd + 1) (cl + size c) (mq q ⟨wt, pd + 1, cl + size c⟩) sto) (by omega) ?_ ?_
    · rw [begin_cast, if_pos ⟨by omega, by omega⟩, hc]
      show (addP _ c).map _ = _
      rw [add] <;> rfl
    · refine E_evS (c := .va (.fn none .n b en)) (by show stk.length + 1 ≤ 900; omega) rfl ?_
      obtain ⟨s, t, rfl, e1, e2⟩ := shape
      refine E_ck (u := .wr (.fn none .n b en) (.fn s t)) (by omega) dc rfl ?_
      rw [Int.add_sub_cancel, Int.add_sub_cancel]
      rw [← sc] at z
      exact z _ (.inr ⟨h, s, t, rfl, e1, e2⟩)
def iB (A N : Ty) : Q3 := mqs (mqs (mqs ⟨0, 0, 0⟩ [⟨1, 0, 0⟩, ⟨2, 0, 0⟩, ⟨3, 0, 0⟩]) (cn A N 3 0 0)) ([⟨2, 0, 0⟩, ⟨2, 0, 0⟩, ⟨3, 0, 0⟩, ⟨3, 0, 0⟩] ++ (cn A N 3 0 0 ++ [⟨1, 0, 0⟩]))
/-- the loop of two functions ends, and what it measures is the same for all counts -/
theorem mainB {A N : Ty} {e : Sx} {l0 l1 l2 : Co} {f g : Bool} {k0 k1 k2 k3 k4 k5 k6 k7 : Int} (hK1 : IsK A e l1) (hK2 : IsK A e l2) (hA : ht A ≤ 3) (hN : le N A) {P : Va → MS → Prop} (c : Nat) (h2 : 3 ≤ c) (h9 : c ≤ 900) (calls : Int) (hc : (c : Int) + 1 ≤ calls)
    (z : ∀ u calls sto, VS A e u → P u (sT calls [] 0 0 0 (mqs (iB A N) (evB A N e f g 3 true false)) sto)) :
    ∃ k, Ends P k (.ev (.call (.lt .b (.bx (ci k0 (.fn .int A) (.fn .int N) (.fn .n .int l0))) (.lt .o (.fn .n .int (bd1 A N l1 f k1 k2 k3)) (.lt .s (.put (.name .b) (ci k4 (.fn .int A) (.fn .int N) (.fn .n .int (bd2 A l2 g k5 k6 k7)))) (.name .o)))) (.num c)) .nil) (start calls) := by
  obtain ⟨i, rfl⟩ : ∃ i, c = i + 3 := ⟨c - 3, by omega⟩
  obtain ⟨k, hk⟩ := loopB_run (f := f) (g := g) (k1 := k1) (k2 := k2) (k3 := k3) (k5 := k5) (k6 := k6) (k7 := k7) (P := P) hK1 hK2 (Nat.le_trans hA (by decide)) hN (i + 3)
  have fin : ∀ (a : Nat) (sto : Nat → Option Va), (∃ v, sto a = some v ∧ Wr A N (two (bd1 A N l1 f k1 k2 k3) (bd2 A l2 g k5 k6 k7) a) v) → Ends P k (.ev (bd1 A N l1 f k1 k2 k3) (en1 a ((i + 3 : Nat) : Int))) (tl (calls - 1) none (iB A N) sto) := fun a sto hs =>
    hk a true none (calls - 1) (iB A N) sto h9 (by omega) ⟨rfl, rfl⟩ (fun _ => rfl) hs fun u calls sto hu => by
      have e1 : mqs (iB A N) (evB A N e f g (i + 3) true (none : Option Ck).isSome) = mqs (iB A N) (evB A N e f g 3 true false) := mqs_eq fun x => evB_mem0 x i
      rw [e1]
      exact z u calls sto hu
  generalize hb1 : bd1 A N l1 f k1 k2 k3 = b1 at fin
  generalize hb2 : bd2 A l2 g k5 k6 k7 = b2 at fin
  refine ⟨k + 1 + 1 + 1 + 1 + 1 + 1 + 3 + 1 + 1 + 1 + 1 + 1 + 1 + 1 + 1 + 1 + 3 + 1 + 1 + 1, ?_⟩
  have i1 : ∀ x : Int, x + 1 - 1 = x := fun x => Int.add_sub_cancel x 1
  -- from the end: the argument, the call
  have sB : ∀ (a : Nat) (sto : Nat → Option Va) (q : Q3), (∃ v, sto a = some v ∧ Wr A N (two b1 b2 a) v) → mqs q [⟨1, 0, 0⟩] = iB A N → ∀ ce en, Ends P (k + 1 + 1 + 1) (.va (one b1 a)) (sT calls [.co (.call ce (.num ((i + 3 : Nat) : Int))) en] 1 0 0 q sto) := fun a sto q hs hq ce en => by
    refine E_fr (c := .ev (.num ((i + 3 : Nat) : Int)) en) (st' := wait (sT calls [] (1 - 1) 0 0 q sto) (.sec .call (one b1 a))) (by decide) (fun c h => nomatch h) rfl ?_
    rw [wait_sT]
    refine E_evS (c := .va (.int ((i + 3 : Nat) : Int))) (by show 1 ≤ 900; decide) rfl ?_
    refine E_fr (c := .ev b1 (en1 a ((i + 3 : Nat) : Int))) (st' := tl (calls - 1) none (iB A N) sto) (by decide) (fun c h => nomatch h) ?_ (fin a sto hs)
    show ofO (if calls = 0 then none else some _) = _
    rw [if_neg (by omega)]
    rw [show (mq q ⟨1 - 1 + 1, 0, 0⟩) = iB A N from hq] <;> rfl
  -- the second let: the box gets its second function
  have sP : ∀ (a : Nat) (sto : Nat → Option Va) (q : Q3), (sto a).isSome = true → mqs q ([⟨2, 0, 0⟩, ⟨3, 0, 0⟩, ⟨3, 0, 0⟩] ++ (cn A N 3 0 0 ++ [⟨1, 0, 0⟩])) = iB A N → ∀ ce en, Ends P (k + 1 + 1 + 1 + 1 + 1 + 1 + 3 + 1 + 1 + 1 + 1)
      (.ev (.lt .s (.put (.name .b) (ci k4 (.fn .int A) (.fn .int N) (.fn .n .int b2))) (.name .o)) (.cons .o (one b1 a) (.cons .b (.bx a) .nil))) (sT calls [.co (.call ce (.num ((i + 3 : Nat) : Int))) en] 1 0 0 q sto) := fun a sto q hs hq ce en => by
    refine E_evS (c := .ev (.put (.name .b) (ci k4 (.fn .int A) (.fn .int N) (.fn .n .int b2))) (.cons .o (one b1 a) (.cons .b (.bx a) .nil))) (by show 1 ≤ 900; decide) rfl ?_
    rw [wait_sT]
    refine E_evS (c := .ev (.name .b) (.cons .o (one b1 a) (.cons .b (.bx a) .nil))) (by show 2 ≤ 900; decide) rfl ?_
    rw [wait_sT]
    refine E_evS (c := .va (.bx a)) (by show 3 ≤ 900; decide) rfl ?_
    refine E_fr (by show 2 < 900; decide) (fun c h => nomatch h) rfl ?_
    rw [i1, wait_sT]
    refine cin_run hA hN (by show 3 ≤ 800; decide) (fun c r h => nomatch h) fun u2 hu2 => ?_
    refine E_fr (c := .va .unit) (st' := sT calls [.co (.lt .s (.put (.name .b) (ci k4 (.fn .int A) (.fn .int N) (.fn .n .int b2))) (.name .o)) (.cons .o (one b1 a) (.cons .b (.bx a) .nil)), .co (.call ce (.num ((i + 3 : Nat) : Int))) en] (1 + 1 + 1 - 1) 0 0 (mqs (mq (mq (mq q ⟨1 + 1, 0, 0⟩) ⟨1 + 1 + 1, 0, 0⟩) ⟨1 + 1 + 1, 0, 0⟩) (cn A N (1 + 1 + 1) 0 0)) (setS sto a u2)) (by show 2 < 900; decide) (fun c h => nomatch h) ?_ ?_
    · show ofO (if (sto a).isSome = true then some _ else none) = _
      rw [if_pos hs] <;> rfl
    refine E_fr (c := .ev (.name .o) (.cons .s .unit (.cons .o (one b1 a) (.cons .b (.bx a) .nil)))) (by show 1 < 900; decide) (fun c h => nomatch h) rfl ?_
    rw [i1, i1]
    refine E_evS (c := .va (one b1 a)) (by show 1 ≤ 900; decide) rfl ?_
    refine sB a _ _ ⟨u2, if_pos rfl, hu2⟩ ?_ ce en
    rw [mqs_app, mqs_app] at hq
    exact hq
  have sO : ∀ (a : Nat) (sto : Nat → Option Va) (q : Q3), (sto a).isSome = true → mqs q ([⟨2, 0, 0⟩, ⟨2, 0, 0⟩, ⟨3, 0, 0⟩, ⟨3, 0, 0⟩] ++ (cn A N 3 0 0 ++ [⟨1, 0, 0⟩])) = iB A N → ∀ ce en, Ends P (k + 1 + 1 + 1 + 1 + 1 + 1 + 3 + 1 + 1 + 1 + 1 + 1 + 1 + 1)
      (.ev (.lt .o (.fn .n .int b1) (.lt .s (.put (.name .b) (ci k4 (.fn .int A) (.fn .int N) (.fn .n .int b2))) (.name .o))) (.cons .b (.bx a) .nil)) (sT calls [.co (.call ce (.num ((i + 3 : Nat) : Int))) en] 1 0 0 q sto) := fun a sto q hs hq ce en => by
    refine E_evS (c := .ev (.fn .n .int b1) (.cons .b (.bx a) .nil)) (by show 1 ≤ 900; decide) rfl ?_
    rw [wait_sT]
    refine E_evS (c := .va (one b1 a)) (by show 2 ≤ 900; decide) rfl ?_
    refine E_fr (c := .ev (.lt .s (.put (.name .b) (ci k4 (.fn .int A) (.fn .int N) (.fn .n .int b2))) (.name .o)) (.cons .o (one b1 a) (.cons .b (.bx a) .nil))) (by show 1 < 900; decide) (fun c h => nomatch h) rfl ?_
    rw [i1]
    exact sP a sto _ hs hq ce en
  -- the first let, the box
  show Ends P _ _ (sT calls [] 0 0 0 ⟨0, 0, 0⟩ (fun _ => none))
  refine E_evS (c := .ev (.lt .b (.bx (ci k0 (.fn .int A) (.fn .int N) (.fn .n .int l0))) (.lt .o (.fn .n .int b1) (.lt .s (.put (.name .b) (ci k4 (.fn .int A) (.fn .int N) (.fn .n .int b2))) (.name .o)))) .nil) (by show 0 ≤ 900; decide) rfl ?_
  rw [wait_sT]
  refine E_evS (c := .ev (.bx (ci k0 (.fn .int A) (.fn .int N) (.fn .n .int l0))) .nil) (by show 1 ≤ 900; decide) rfl ?_
  rw [wait_sT]
  refine E_evS (c := .ev (ci k0 (.fn .int A) (.fn .int N) (.fn .n .int l0)) .nil) (by show 2 ≤ 900; decide) rfl ?_
  rw [wait_sT]
  refine cin_run hA hN (by show 3 ≤ 800; decide) (fun c r h => nomatch h) fun u0 hu0 => ?_
  refine E_al (u := u0) (by show 2 < 900; decide) (fun c h => nomatch h) rfl fun a ha => ?_
  rw [i1]
  refine E_fr (c := .ev (.lt .o (.fn .n .int b1) (.lt .s (.put (.name .b) (ci k4 (.fn .int A) (.fn .int N) (.fn .n .int b2))) (.name .o))) (.cons .b (.bx a) .nil)) (by show 1 < 900; decide) (fun c h => nomatch h) rfl ?_
  rw [i1]
  exact sO a _ _ (by show (if a = a then some u0 else none).isSome = true; rw [if_pos rfl] <;> rfl) rfl _ _
end Hn.Pl
end

/- HnW1 -/
section
set_option Elab.async false
set_option linter.all false
set_option maxRecDepth 100000
set_option maxHeartbeats 4000000
/-! Halfnoted: types and checks, def by def. -/
namespace Hn
open PySem PySem.Spec PyProof.Rows L2 Evl
section
variable {K : PySem.W.Frag} {te ta tb : TE} {tt : TT} {ts : TS} {as : TA} {ds : Lo} {l : List D} {d : D} {b : Bool}
theorem ed_ix0 (h : ED K te ds (.t l)) (hi : l[0]? = some d) : ED K (tOp (rIxT K) te (tC (.int 0))) ds d := ed_ix h hi
theorem ed_ix1 (h : ED K te ds (.t l)) (hi : l[1]? = some d) : ED K (tOp (rIxT K) te (tC (.int 1))) ds d := ed_ix h hi
theorem ed_ix2 (h : ED K te ds (.t l)) (hi : l[2]? = some d) : ED K (tOp (rIxT K) te (tC (.int 2))) ds d := ed_ix h hi
theorem ed_ix3 (h : ED K te ds (.t l)) (hi : l[3]? = some d) : ED K (tOp (rIxT K) te (tC (.int 3))) ds d := ed_ix h hi
theorem ed_ix4 (h : ED K te ds (.t l)) (hi : l[4]? = some d) : ED K (tOp (rIxT K) te (tC (.int 4))) ds d := ed_ix h hi
theorem ed_ix5 (h : ED K te ds (.t l)) (hi : l[5]? = some d) : ED K (tOp (rIxT K) te (tC (.int 5))) ds d := ed_ix h hi
theorem eb_ck {c : Ck} (h1 : ED K ta ds c.d) (h2 : ED K tb ds (tS "any")) (hb : decide (c = .any) = b) (hd : dp c ≤ 60) : EB K (tTest (tOp (rEqD K) ta tb)) ds b :=
  eb_eqD h1 h2 (Ck.flat c) (by decide +kernel) (by have := Ck.deep c; omega) (by decide +kernel) (by rw [← hb]; exact eqv_ck c)
theorem eb_tyA {A : Ty} (h1 : ED K ta ds A.d) (h2 : ED K tb ds (tS "any")) (hb : decide (A = .any) = b) (hd : ht A ≤ 60) : EB K (tTest (tOp (rEqD K) ta tb)) ds b :=
  eb_eqD h1 h2 (Ty.flat A) (by decide +kernel) (by have := Ty.deep A; omega) (by decide +kernel) (by rw [← hb]; exact eqv_ty A .any)
theorem eb_ty {A B : Ty} (h1 : ED K ta ds A.d) (h2 : ED K tb ds B.d) (hb : decide (A = B) = b) (hd : ht A ≤ 60) (he : ht B ≤ 60) : EB K (tTest (tOp (rEqD K) ta tb)) ds b :=
  eb_eqD h1 h2 (Ty.flat A) (Ty.flat B) (by have := Ty.deep A; omega) (by have := Ty.deep B; omega) (by rw [← hb]; exact eqv_ty A B)
theorem reps_strs {H : Hp} : ∀ {ys : List Str} {xs : List V}, Reps K H (ys.map D.s) xs → xs = ys.map V.str
  | [], _, h => h
  | y :: ys, _, ⟨x, r, h1, h2, h3⟩ => by
    have e : x = .str y := h2
    rw [h1, e, reps_strs h3] <;> rfl
theorem flat_strs : ∀ ys : List Str, (ys.map V.str).all flatV = true
  | [] => rfl
  | y :: ys => flat_strs ys
theorem inv_strs {x : Str} : ∀ ys : List Str, inV (.str x) (ys.map V.str) = ys.any fun y => decide (y = x)
  | [] => rfl
  | y :: ys => by
    have ih := inv_strs (x := x) ys
    unfold inV at ih ⊢
    rw [List.map_cons, List.any_cons, List.any_cons, ih]
    show ((y == x) || _) = _
    rw [Bool.beq_eq_decide_eq]
theorem eb_in {x : Str} {ys : List Str} (h1 : ED K ta ds (.s x)) (h2 : ED K tb ds (.t (ys.map D.s))) (hb : (ys.any fun y => decide (y = x)) = b) : EB K (tTest (tOp (rIn K false) ta tb)) ds b := fun σ H L Q q =>
  h1 σ H L _ fun v H' e' r => h2 σ H' (L.mono (Tm.ex e')) _ fun v2 H2 e2 r2 => by
    cases r
    obtain ⟨p, xs, rfl, hs, hr⟩ := r2
    have e := reps_strs hr
    subst e
    refine ⟨p, _, rfl, .inr hs, rfl, flat_strs ys, b, ?_, q H2 (e'.trans e2)⟩
    show V.bl (inV (.str x) (ys.map V.str)) = _
    rw [inv_strs, hb]
theorem ed_len {n : Int} (h : ED K te ds (.t l)) (hn : n = (l.length : Int)) : ED K (tCB (fun xs H Q => ∃ p ys, xs = [.ref p] ∧ (SqL K H p ys ∨ SqT K H p ys) ∧ Q (.int ys.length) H) (tCons te tNil)) ds (.i n) := fun σ H L Q q =>
  h σ H L _ fun v H' e' r => by
    obtain ⟨p, xs, rfl, hs, hr⟩ := r
    exact ⟨p, xs, rfl, .inr hs, q _ H' e' (by rw [hr.len, hn] <;> rfl)⟩
theorem ed_lt {m n : Int} (h1 : ED K ta ds (.i m)) (h2 : ED K tb ds (.i n)) : ED K (tOp (rI0 fun i j => .bl (decide (i < j))) ta tb) ds (.b (decide (m < n))) := fun σ H L Q q =>
  h1 σ H L _ fun v H' e' r => h2 σ H' (L.mono (Tm.ex e')) _ fun v2 H2 e2 r2 => by
    cases r; cases r2
    exact ⟨m, n, rfl, rfl, q _ H2 (e'.trans e2) rfl⟩
theorem ed_mod {m n : Int} (h1 : ED K ta ds (.i m)) (h2 : ED K tb ds (.i n)) (h0 : 0 < n) : ED K (tOp (rI (fun _ j => 0 < j) fun i j => .int (i % j)) ta tb) ds (.i (m % n)) := fun σ H L Q q =>
  h1 σ H L _ fun v H' e' r => h2 σ H' (L.mono (Tm.ex e')) _ fun v2 H2 e2 r2 => by
    cases r; cases r2
    exact ⟨m, n, rfl, rfl, h0, q _ H2 (e'.trans e2) rfl⟩
theorem ed_mul {m n : Int} (h1 : ED K ta ds (.i m)) (h2 : ED K tb ds (.i n)) (h0 : CMul m n) : ED K (tOp (rI CMul fun i j => .int (i * j)) ta tb) ds (.i (m * n)) := fun σ H L Q q =>
  h1 σ H L _ fun v H' e' r => h2 σ H' (L.mono (Tm.ex e')) _ fun v2 H2 e2 r2 => by
    cases r; cases r2
    exact ⟨m, n, rfl, rfl, h0, q _ H2 (e'.trans e2) rfl⟩
theorem ed_int1 {m : Int} (h1 : ED K ta ds (.i m)) : ED K (tCB (fun xs H Q => (∃ i, xs = [.int i] ∧ Q (.int i) H) ∨ ∃ k, xs = [.bl k] ∧ Q (.int (if k then 1 else 0)) H) (tCons ta tNil)) ds (.i m) := fun σ H L Q q =>
  h1 σ H L _ fun v H' e' r => by
    cases r
    exact .inl ⟨m, rfl, q _ H' e' rfl⟩
theorem LoOk.junk {H : Hp} {v : V} : ∀ {σ : L2.St} {ds : Lo} {j : Nat}, ds[j]? = some none → LoOk K H σ ds → LoOk K H (σ.set j (some v)) ds
  | [], [], _, e, h => by simp at e
  | none :: σ, none :: ds, 0, _, h => h
  | none :: σ, none :: ds, j + 1, e, h => LoOk.junk (σ := σ) (ds := ds) (j := j) (by simpa using e) h
  | some _ :: σ, some _ :: ds, 0, e, h => by simp at e
  | some _ :: σ, some _ :: ds, j + 1, e, h => ⟨h.1, LoOk.junk (j := j) (by simpa using e) h.2⟩
  | some _ :: σ, none :: ds, 0, _, h => h
  | some _ :: σ, none :: ds, j + 1, e, h => LoOk.junk (σ := σ) (ds := ds) (j := j) (by simpa using e) h
  | [], none :: _, _, _, h => h.elim
  | [], some _ :: _, _, _, h => h.elim
  | none :: _, [], _, _, h => h.elim
  | none :: _, some _ :: _, _, _, h => h.elim
  | some _ :: _, [], _, _, h => h.elim
theorem LoOk.forget {H : Hp} {d : D} : ∀ {σ : L2.St} {ds : Lo} {j : Nat}, ds[j]? = some none → LoOk K H σ (ds.set j (some d)) → LoOk K H σ ds
  | _, [], _, e, _ => by simp at e
  | [], none :: _, 0, _, h => h.elim
  | none :: σ, none :: ds, 0, _, h => h.elim
  | some _ :: σ, none :: ds, 0, _, h => h.2
  | [], none :: _, _ + 1, _, h => h.elim
  | none :: σ, none :: ds, j + 1, e, h => LoOk.forget (σ := σ) (ds := ds) (j := j) (d := d) (by simpa using e) h
  | some _ :: σ, none :: ds, j + 1, e, h => LoOk.forget (σ := σ) (ds := ds) (j := j) (d := d) (by simpa using e) h
  | _, some _ :: _, 0, e, _ => by simp at e
  | [], some _ :: _, _ + 1, _, h => h.elim
  | none :: _, some _ :: _, _ + 1, _, h => h.elim
  | some _ :: σ, some _ :: ds, j + 1, e, h => ⟨h.1, LoOk.forget (j := j) (d := d) (by simpa using e) h.2⟩
/-- for x in range(lo, lo + m): nothing but x is stored -/
theorem nd_forR {j m : Nat} {lo hi : Int} (ha : EDs K as ds [.i lo, .i hi]) (hm : hi = lo + m) (h0 : 0 ≤ lo) (h1 : hi ≤ 1000) (hj : ds[j]? = some none) (hb : ∀ i : Nat, i < m → ND K ts (ds.set j (some (.i (lo + i)))) (ds.set j (some (.i (lo + i))))) :
    ND K (tFor (iRng2 as) (gName j) ts) ds ds := fun D σ H L q => ha σ H L _ fun vs H' e' r => by
  obtain ⟨x, r1, rfl, e1, y, r2, rfl, e2, e3⟩ := r
  cases e1; cases e2; cases e3
  refine ⟨lo, hi, rfl, ⟨by omega, by omega, by omega, by omega⟩, ?_⟩
  have en : (hi - lo).toNat = m := by omega
  rw [en]
  refine for_range (fun _ σ' H2 => LoOk K H2 σ' ds ∧ Ex H H2) ⟨L.mono (Tm.ex e'), e'⟩ (fun i σ' H2 hi ⟨L', e4⟩ => ?_) fun σ' H2 ⟨L', e4⟩ => q σ' H2 e4 L'
  exact hb i hi { D with nx := fun σ' H2 => LoOk K H2 σ' ds ∧ Ex H H2, ct := fun σ' H2 => LoOk K H2 σ' ds ∧ Ex H H2, bk := D.nx } _ H2 (L'.set (d := .i (lo + i)) rfl j) fun σ3 H3 e5 L3 => ⟨L3.forget hj, e4.trans e5⟩
end
section
/-- a def called with keywords behind n values -/
structure CalN (P : Program) (w : World) (K : PySem.W.Frag) (mg : Str → Option Value) (base : Heap) (k : Nat) (x : Str) (n : Nat) (ks : List Str) (sp : Sp) : Prop where
  ex : ∃ (f : Addr) (fd : FuncData) (ps : List Str), FnOk P w K mg base C8.CX0 k f fd ps sp ∧ mg x = some (.ref f) ∧ PySem.W.keepIn K (.ref f) = true ∧ KBn K fd ps n ks (fun us ws => us ++ ws) (fun vs zs => vs ++ zs)
theorem pe_k {X : Cx} {k j n : Nat} {x : Str} {ks : List Str} {sp : Sp} {p pos : Pos} {e : Expr} {es : List Expr} {kws : List Keyword} {t tk : TA} (c : CalN X.prog X.w X.K X.mg X.base k x n ks sp) (hr : Room j X.A) (hk : k ≤ j) (hg : Gl X x)
    (ha : PA X (e :: es) t) (hkw : PK X kws tk) (hall : (backToKw pos (keywordEach kws X.env)).all (·.1.isSome) = true := by rfl) (hks : (backToKw pos (keywordEach kws X.env)).filterMap (·.1) = ks := by rfl)
    (hdb : (x == ("__debug__" : Str)) = false := by decide) (he : starEach (e :: es) X.env = (false, eval e X.env) :: starEach es X.env := by rfl)
    (hpl : ((backTo pos (starEach (e :: es) X.env)).any (·.1) || (backToKw pos (keywordEach kws X.env)).any (·.1.isNone)) = false := by rfl) :
    PE X (.Call (.Name x p) (e :: es) kws pos) (tCallN n ks.length sp (fun vs zs => vs ++ zs) E0 t tk) := by
  obtain ⟨f, fd, ps, F, hm, kp, b⟩ := c.ex
  exact pe_callN F (hr.mono hk) hg hm kp b C8.pass0 ha hkw hall hks hdb he hpl
theorem ed_callK {K : PySem.W.Frag} {ds : Lo} {R : List D → D → Prop} {E : XK} {n m : Nat} {as ar : TA} {l l2 : List D} {d : D} (h : EDs K as ds l) (h2 : EDs K ar ds l2) (hr : R (l ++ l2) d) (hn : l.length = n) (hm : l2.length = m) :
    ED K (tCallN n m (spD K R) (fun vs zs => vs ++ zs) E as ar) ds d := fun σ H L Q q =>
  h σ H L _ fun vs H' e' r => h2 σ H' (L.mono (Tm.ex e')) _ fun zs H2 e2 r2 => ⟨by rw [r.len]; exact hn, by rw [r2.len]; exact hm, _, d, (r.mono (Tm.ex e2)).app r2, hr, fun v H3 e3 r3 => q v H3 ((e'.trans e2).trans e3) r3⟩
end
local macro_rules | `(tactic| walk_at "ev") => `(tactic| first
  | ((with_reducible show ED _ (tVar _) _ _); exact ed_var rfl)
  | ((with_reducible show ED _ (tC _) _ _); first | exact ed_s | exact ed_i | exact ed_b | exact ed_n | exact ed_c (by assumption))
  | ((with_reducible show ED _ (tOp (rIxT _) _ (tC (V.int 0))) _ _); refine' ed_ix0 ?k1 ?k2; (case k1 => walk_at "ev"); (case k2 => rfl))
  | ((with_reducible show ED _ (tOp (rIxT _) _ (tC (V.int 1))) _ _); refine' ed_ix1 ?k1 ?k2; (case k1 => walk_at "ev"); (case k2 => rfl))
  | ((with_reducible show ED _ (tOp (rIxT _) _ (tC (V.int 2))) _ _); refine' ed_ix2 ?k1 ?k2; (case k1 => walk_at "ev"); (case k2 => rfl))
  | ((with_reducible show ED _ (tOp (rIxT _) _ (tC (V.int 3))) _ _); refine' ed_ix3 ?k1 ?k2; (case k1 => walk_at "ev"); (case k2 => rfl))
  | ((with_reducible show ED _ (tOp (rIxT _) _ (tC (V.int 4))) _ _); refine' ed_ix4 ?k1 ?k2; (case k1 => walk_at "ev"); (case k2 => rfl))
  | ((with_reducible show ED _ (tOp (rIxT _) _ (tC (V.int 5))) _ _); refine' ed_ix5 ?k1 ?k2; (case k1 => walk_at "ev"); (case k2 => rfl))
  | ((with_reducible show ED _ (tOp (rIxT _) _ (tVar _)) _ _); first
    | (refine' ed_ixE (j := 1) ?k1 ?k2 ?k3 ?k4; (case k1 => walk_at "ev"); (case k2 => walk_at "ev"); (case k3 => rfl); (case k4 => first | rfl | decide))
    | (refine' ed_ixE (j := 2) ?k1 ?k2 ?k3 ?k4; (case k1 => walk_at "ev"); (case k2 => walk_at "ev"); (case k3 => rfl); (case k4 => first | rfl | decide)))
  | ((with_reducible show ED _ (tCB _ (tCons _ tNil)) _ _); refine' ed_len ?k1 ?k2; (case k1 => walk_at "ev"); (case k2 => rfl))
  | ((with_reducible show ED _ (tTup _) _ _); refine' ed_tup ?k1 ?k2; (case k1 => walk_at "es"); (case k2 => exact Nat.le_of_ble_eq_true rfl))
  | ((with_reducible show ED _ (tCall _ _ _ _) _ _); refine' ed_call ?k1 ?k2; (case k1 => walk_at "es"); (case k2 => walk_at "cl"))
  | ((with_reducible show ED _ (tCallN _ _ _ _ _ _ _) _ _); refine' ed_callK ?k1 ?k2 ?k3 ?k4 ?k5; (case k1 => walk_at "es"); (case k2 => walk_at "es"); (case k3 => walk_at "cl"); (case k4 => rfl); (case k5 => rfl))
  | ((with_reducible show ED _ (tOp (rI0 _) _ _) _ _); first
    | (refine' ed_add ?k1 ?k2; (case k1 => walk_at "ev"); (case k2 => walk_at "ev"))
    | (refine' ed_sub ?k1 ?k2; (case k1 => walk_at "ev"); (case k2 => walk_at "ev"))
    | (refine' ed_lt ?k1 ?k2; (case k1 => walk_at "ev"); (case k2 => walk_at "ev"))))
local macro_rules | `(tactic| walk_at "es") => `(tactic| first
  | ((with_reducible show EDs _ tNil _ _); exact es_nil)
  | ((with_reducible show EDs _ (tCons _ _) _ _); refine' es_cons ?k1 ?k2; (case k1 => walk_at "ev"); (case k2 => walk_at "es")))
local macro_rules | `(tactic| walk_at "eb") => `(tactic| first
  | ((with_reducible show EB _ (tTest (tOp rEq _ _)) _ _); refine' eb_eqS ?k1 ?k2 ?k3; (case k1 => walk_at "ev"); (case k2 => walk_at "ev"); (case k3 => first | decide +kernel | assumption))
  | ((with_reducible show EB _ (tTest (tOp rNe _ _)) _ _); refine' eb_neS ?k1 ?k2 ?k3; (case k1 => walk_at "ev"); (case k2 => walk_at "ev"); (case k3 => first | decide +kernel | assumption))
  | ((with_reducible show EB _ (tTest (tOp (rEqD _) _ _)) _ _); first
    | (refine' eb_ck ?k1 ?k2 ?k3 ?k4; (case k1 => walk_at "ev"); (case k2 => walk_at "ev"); (case k3 => first | rfl | decide +kernel | assumption); (case k4 => first | assumption | decide +kernel | omega))
    | (refine' eb_tyA ?k1 ?k2 ?k3 ?k4; (case k1 => walk_at "ev"); (case k2 => walk_at "ev"); (case k3 => first | rfl | decide +kernel | assumption); (case k4 => first | assumption | decide +kernel | omega))
    | (refine' eb_ty ?k1 ?k2 ?k3 ?k4 ?k5; (case k1 => walk_at "ev"); (case k2 => walk_at "ev"); (case k3 => first | assumption | rfl); (case k4 => first | assumption | decide +kernel | omega); (case k5 => first | assumption | decide +kernel | omega)))
  | ((with_reducible show EB _ (tTest (tOp (rIn _ _) _ _)) _ _); refine' eb_in ?k1 ?k2 ?k3; (case k1 => walk_at "ev"); (case k2 => walk_at "ev"); (case k3 => decide +kernel))
  | ((with_reducible show EB _ (tOr _ _) _ _); first
    | (refine' eb_or (b := true) ?k1 ?k2 ?k3; (case k1 => walk_at "eb"); (case k2 => intro z; cases z); (case k3 => intro _; rfl))
    | (refine' eb_or (b := false) ?k1 ?k2 ?k3; (case k1 => walk_at "eb"); (case k2 => intro _; walk_at "eb"); (case k3 => intro z; cases z)))
  | ((with_reducible show EB _ (tAnd _ _) _ _); first
    | (refine' eb_and (b := false) ?k1 ?k2 ?k3; (case k1 => walk_at "eb"); (case k2 => intro z; cases z); (case k3 => intro _; rfl))
    | (refine' eb_and (b := true) ?k1 ?k2 ?k3; (case k1 => walk_at "eb"); (case k2 => intro _; walk_at "eb"); (case k3 => intro z; cases z)))
  | ((with_reducible show EB _ (tNot _) _ _); first | (refine' eb_not (b := true) ?k1 rfl; (case k1 => walk_at "eb")) | (refine' eb_not (b := false) ?k1 rfl; (case k1 => walk_at "eb")))
  | ((with_reducible show EB _ (tB _) _ _); refine' eb_val ?k1; (case k1 => walk_at "ev")))
local macro_rules | `(tactic| walk_at "rd") => `(tactic| first
  | ((with_reducible show RD _ (tRet _) _ _); refine' rd_ret ?k1; (case k1 => walk_at "ev"))
  | ((with_reducible show RD _ (tSeq (tIfS _ _ tNext) _) _ _); (first
    | ((with_reducible refine' rd_skip ?k1 ?k2); (case k1 => walk_at "eb"))
    | ((with_reducible refine' rd_take ?k1 ?k2); (case k1 => walk_at "eb"))); (walk_at "rd"))
  | ((with_reducible show RD _ (tIfS _ _ _) _ _); (first
    | ((with_reducible refine' rd_yes ?k1 ?k2); (case k1 => walk_at "eb"))
    | ((with_reducible refine' rd_no ?k1 ?k2); (case k1 => walk_at "eb"))); (walk_at "rd"))
  | ((with_reducible show RD _ (tSeq _ _) _ _); (with_reducible refine' rd_sn ?k1 ?k2); (case k1 => walk_at "nd"); (case k2 => walk_at "rd")))
local macro_rules | `(tactic| walk_at "nd") => `(tactic| first
  | ((with_reducible show ND _ tNext _ _); exact nd_next)
  | ((with_reducible show ND _ (tAsg _ _) _ _); refine' nd_asg ?k1; (case k1 => walk_at "ev"))
  | ((with_reducible show ND _ (tIfS _ _ _) _ _); (first
    | ((with_reducible refine' nd_yes ?k1 ?k2); (case k1 => walk_at "eb"))
    | ((with_reducible refine' nd_no ?k1 ?k2); (case k1 => walk_at "eb"))); (walk_at "nd"))
  | ((with_reducible show ND _ (tSeq _ _) _ _); (with_reducible refine' nd_sn ?k1 ?k2); (case k1 => walk_at "nd"); (case k2 => walk_at "nd")))
local macro_rules | `(tactic| walk_at "cl") => `(tactic| first | assumption | skip)
section
variable {P : Program} {w : World} {K : PySem.W.Frag} {mg : Str → Option Value} {base : Heap}
/-! ### plain_ground, join -/
def RPg : List D → D → Prop := fun l d => ∃ c g, l = [Ck.d c] ∧ pg c = some g ∧ d = .s g.str
theorem ok_plain_ground (T : Tx w K mg) : C8.Cal P w K mg base 1 "plain_ground" (spD K RPg) [] := by
  refine mk_plain_ground T fun fd F => ok_data F sc_plain_ground (fun l d h => by obtain ⟨c, g, rfl, _⟩ := h; rfl) fun cdv A outer s H E l d hr h => ?_
  obtain ⟨c, g, rfl, hp, rfl⟩ := h
  refine ⟨_, (pss_cons (ps_if (pt_cmpR op_eq (pe_ix ix_tup (pv 0) pe_int (fun _ _ => rfl)) pe_str (nomark _)) (pss_one (ps_ret (pe_ix ix_tup (pv 0) pe_int (fun _ _ => rfl)))) pss_nil)
  (pss_one (ps_ret (pe_ix ix_tup (pv 0) pe_int (fun _ _ => rfl))))), ?_⟩
  cases c <;> (first | cases hp) <;> (walk_at "rd")
/-- join with n left -/
def RJ (n : Nat) : List D → D → Prop := fun l d => ∃ a b c, l = [Ck.d a, Ck.d b] ∧ dp a ≤ 60 ∧ dp b ≤ 60 ∧ joinF n a b = some c ∧ d = Ck.d c
def RJp (n : Nat) : List D → D → Prop := fun l d => ∃ a b c, l = [Ck.d a, Ck.d b] ∧ dp a ≤ 60 ∧ dp b ≤ 60 ∧ plainJ (joinF n) a b = some c ∧ d = Ck.d c
def RJg (n : Nat) : List D → D → Prop := fun l d => ∃ a b c, l = [Ck.d (.give a), Ck.d b] ∧ dp a ≤ 60 ∧ dp b ≤ 60 ∧ giveJ (joinF n) a b = some c ∧ d = Ck.d c
theorem rj {n : Nat} {a b c : Ck} (h : joinF n a b = some c) (h1 : dp a ≤ 60) (h2 : dp b ≤ 60) : RJ n [Ck.d a, Ck.d b] (Ck.d c) := ⟨a, b, c, rfl, h1, h2, h, rfl⟩
theorem ok_join_plain (T : Tx w K mg) {n k : Nat} (c_join : C8.Cal P w K mg base k "join" (spD K (RJ n)) []) : C8.Cal P w K mg base (k + 1) "join_plain" (spD K (RJp n)) [] := by
  refine mk_join_plain T fun fd F => ok_data F sc_join_plain (fun l d h => by obtain ⟨a, b, c, rfl, _⟩ := h; rfl) fun cdv A outer s H E l d hr h => ?_
  obtain ⟨a, b, c, rfl, d1, d2, hj, rfl⟩ := h
  refine ⟨_, (pss_cons (ps_if (pt_cmpR op_eq (pe_ix ix_tup (pv 0) pe_int (fun _ _ => rfl)) pe_str (nomark _)) (pss_one (ps_ret (pv 0))) pss_nil)
  (pss_cons (ps_if (pt_cmpR op_eq (pe_ix ix_tup (pv 0) pe_int (fun _ _ => rfl)) pe_str (nomark _)) (pss_one (ps_ret (pe_tup (pa_cons pe_str (pa_cons (C8.pe_c c_join hr (by omega) rfl (pa_cons (pe_ix ix_tup (pv 0) pe_int (fun _ _ => rfl)) (pa_cons (pe_ix ix_tup (pv 1) pe_int (fun _ _ => rfl)) pa_nil))) (pa_cons (C8.pe_c c_join hr (by omega) rfl (pa_cons (pe_ix ix_tup (pv 0) pe_int (fun _ _ => rfl)) (pa_cons (pe_ix ix_tup (pv 1) pe_int (fun _ _ => rfl)) pa_nil))) pa_nil)))))) pss_nil)
  (pss_one (ps_ret (pe_tup (pa_cons (pe_ix ix_tup (pv 0) pe_int (fun _ _ => rfl)) (pa_cons (C8.pe_c c_join hr (by omega) rfl (pa_cons (pe_ix ix_tup (pv 1) pe_int (fun _ _ => rfl)) (pa_cons (pe_ix ix_tup (pv 0) pe_int (fun _ _ => rfl)) pa_nil))) (pa_cons (C8.pe_c c_join hr (by omega) rfl (pa_cons (pe_ix ix_tup (pv 0) pe_int (fun _ _ => rfl)) (pa_cons (pe_ix ix_tup (pv 1) pe_int (fun _ _ => rfl)) pa_nil))) pa_nil)))))))), ?_⟩
  cases a <;> cases b <;> (first | (cases hj; done) | skip)
  · cases hj
    walk_at "rd"
  · obtain ⟨x, hx, hj⟩ := Option.bind_eq_some_iff.mp hj
    obtain ⟨y, hy, hj⟩ := Option.map_eq_some_iff.mp hj
    cases hj
    simp only [dp] at d1 d2
    have q1 := rj hx (by omega) (by omega)
    have q2 := rj hy (by omega) (by omega)
    walk_at "rd"
  · obtain ⟨x, hx, hj⟩ := Option.bind_eq_some_iff.mp hj
    obtain ⟨y, hy, hj⟩ := Option.map_eq_some_iff.mp hj
    cases hj
    simp only [dp] at d1 d2
    have q1 := rj hx (by omega) (by omega)
    have q2 := rj hy (by omega) (by omega)
    walk_at "rd"
  · obtain ⟨x, hx, hj⟩ := Option.bind_eq_some_iff.mp hj
    obtain ⟨y, hy, hj⟩ := Option.map_eq_some_iff.mp hj
    cases hj
    simp only [dp] at d1 d2
    have q1 := rj hx (by omega) (by omega)
    have q2 := rj hy (by omega) (by omega)
    walk_at "rd"
theorem ok_join_give (T : Tx w K mg) {n k : Nat} (hk : 1 ≤ k) (c_join : C8.Cal P w K mg base k "join" (spD K (RJ n)) []) : C8.Cal P w K mg base (k + 1) "join_give" (spD K (RJg n)) [] := by
  have c_plain_ground := ok_plain_ground (P := P) (base := base) T
  obtain ⟨vANY, uANY, hANY_checks, rANY_checks, RA⟩ := gc_ANY_checks T
  refine mk_join_give T fun fd F => ok_data F sc_join_give (fun l d h => by obtain ⟨a, b, c, rfl, _⟩ := h; rfl) fun cdv A outer s H E l d hr h => ?_
  obtain ⟨a, b, c, rfl, d1, d2, hj, rfl⟩ := h
  refine ⟨_, (pss_cons (ps_if (pt_cmpR (op_eqD hr.units) (pv 1) (pe_glob rfl hANY_checks rANY_checks) (nomark _)) (pss_one (ps_ret (pv 0))) pss_nil)
  (pss_cons (ps_set (i := 2) sc_join_give.nd rfl (Or.inl rfl) (pe_ix ix_tup (pv 0) pe_int (fun _ _ => rfl)))
  (pss_cons (ps_if (pt_cmpR op_eq (pe_ix ix_tup (pv 1) pe_int (fun _ _ => rfl)) (C8.pe_c c_plain_ground hr (by omega) rfl (pa_cons (pv 2) pa_nil)) (nomark _)) (pss_one (ps_ret (C8.pe_c c_join hr (by omega) rfl (pa_cons (pv 2) (pa_cons (pe_ix ix_tup (pv 1) pe_int (fun _ _ => rfl)) pa_nil))))) pss_nil)
  (pss_one (ps_ret (pe_tup (pa_cons pe_str (pa_cons (C8.pe_c c_plain_ground hr (by omega) rfl (pa_cons (pv 2) pa_nil)) (pa_cons (pe_ix ix_tup (pv 1) pe_int (fun _ _ => rfl)) (pa_cons (pe_ix ix_tup (pv 1) pe_int (fun _ _ => rfl)) pa_nil)))))))))), ?_⟩
  cases b <;> (first | (cases hj; done) | skip)
  · cases hj
    walk_at "rd"
  · rename_i g n1 s1 i
    have hj' : (if pg a = some g then joinF n a i else none) = some c := hj
    by_cases hg : pg a = some g
    · rw [if_pos hg] at hj'
      simp only [dp] at d2
      have q1 : RPg [Ck.d a] (.s g.str) := ⟨a, g, rfl, hg, rfl⟩
      have q2 := rj hj' d1 (by omega)
      refine rd_skip (by walk_at "eb") (rd_sn (by walk_at "nd") ?_)
      refine rd_take (eb_eqS (by walk_at "ev") (by walk_at "ev") (decide_eq_true rfl)) (by walk_at "rd")
    · rw [if_neg hg] at hj'
      cases hj'
end
end Hn
end

/- HnW2 -/
section
set_option Elab.async false
set_option linter.all false
set_option maxRecDepth 100000
set_option maxHeartbeats 4000000
namespace Hn
open PySem PySem.Spec PyProof.Rows L2 Evl
local macro_rules | `(tactic| walk_at "ev") => `(tactic| first
  | ((with_reducible show ED _ (tVar _) _ _); exact ed_var rfl)
  | ((with_reducible show ED _ (tC _) _ _); first | exact ed_s | exact ed_i | exact ed_b | exact ed_n | exact ed_c (by assumption))
  | ((with_reducible show ED _ (tOp (rIxT _) _ (tC (V.int 0))) _ _); refine' ed_ix0 ?k1 ?k2; (case k1 => walk_at "ev"); (case k2 => rfl))
  | ((with_reducible show ED _ (tOp (rIxT _) _ (tC (V.int 1))) _ _); refine' ed_ix1 ?k1 ?k2; (case k1 => walk_at "ev"); (case k2 => rfl))
  | ((with_reducible show ED _ (tOp (rIxT _) _ (tC (V.int 2))) _ _); refine' ed_ix2 ?k1 ?k2; (case k1 => walk_at "ev"); (case k2 => rfl))
  | ((with_reducible show ED _ (tOp (rIxT _) _ (tC (V.int 3))) _ _); refine' ed_ix3 ?k1 ?k2; (case k1 => walk_at "ev"); (case k2 => rfl))
  | ((with_reducible show ED _ (tOp (rIxT _) _ (tC (V.int 4))) _ _); refine' ed_ix4 ?k1 ?k2; (case k1 => walk_at "ev"); (case k2 => rfl))
  | ((with_reducible show ED _ (tOp (rIxT _) _ (tC (V.int 5))) _ _); refine' ed_ix5 ?k1 ?k2; (case k1 => walk_at "ev"); (case k2 => rfl))
  | ((with_reducible show ED _ (tOp (rIxT _) _ (tVar _)) _ _); first
    | (refine' ed_ixE (j := 1) ?k1 ?k2 ?k3 ?k4; (case k1 => walk_at "ev"); (case k2 => walk_at "ev"); (case k3 => rfl); (case k4 => first | rfl | decide))
    | (refine' ed_ixE (j := 2) ?k1 ?k2 ?k3 ?k4; (case k1 => walk_at "ev"); (case k2 => walk_at "ev"); (case k3 => rfl); (case k4 => first | rfl | decide)))
  | ((with_reducible show ED _ (tCB _ (tCons _ tNil)) _ _); refine' ed_len ?k1 ?k2; (case k1 => walk_at "ev"); (case k2 => rfl))
  | ((with_reducible show ED _ (tTup _) _ _); refine' ed_tup ?k1 ?k2; (case k1 => walk_at "es"); (case k2 => exact Nat.le_of_ble_eq_true rfl))
  | ((with_reducible show ED _ (tCall _ _ _ _) _ _); refine' ed_call ?k1 ?k2; (case k1 => walk_at "es"); (case k2 => walk_at "cl"))
  | ((with_reducible show ED _ (tCallN _ _ _ _ _ _ _) _ _); refine' ed_callK ?k1 ?k2 ?k3 ?k4 ?k5; (case k1 => walk_at "es"); (case k2 => walk_at "es"); (case k3 => walk_at "cl"); (case k4 => rfl); (case k5 => rfl))
  | ((with_reducible show ED _ (tOp (rI0 _) _ _) _ _); first
    | (refine' ed_add ?k1 ?k2; (case k1 => walk_at "ev"); (case k2 => walk_at "ev"))
    | (refine' ed_sub ?k1 ?k2; (case k1 => walk_at "ev"); (case k2 => walk_at "ev"))
    | (refine' ed_lt ?k1 ?k2; (case k1 => walk_at "ev"); (case k2 => walk_at "ev"))))
local macro_rules | `(tactic| walk_at "es") => `(tactic| first
  | ((with_reducible show EDs _ tNil _ _); exact es_nil)
  | ((with_reducible show EDs _ (tCons _ _) _ _); refine' es_cons ?k1 ?k2; (case k1 => walk_at "ev"); (case k2 => walk_at "es")))
local macro_rules | `(tactic| walk_at "eb") => `(tactic| first
  | ((with_reducible show EB _ (tTest (tOp rEq _ _)) _ _); refine' eb_eqS ?k1 ?k2 ?k3; (case k1 => walk_at "ev"); (case k2 => walk_at "ev"); (case k3 => first | decide +kernel | assumption))
  | ((with_reducible show EB _ (tTest (tOp rNe _ _)) _ _); refine' eb_neS ?k1 ?k2 ?k3; (case k1 => walk_at "ev"); (case k2 => walk_at "ev"); (case k3 => first | decide +kernel | assumption))
  | ((with_reducible show EB _ (tTest (tOp (rEqD _) _ _)) _ _); first
    | (refine' eb_ck ?k1 ?k2 ?k3 ?k4; (case k1 => walk_at "ev"); (case k2 => walk_at "ev"); (case k3 => first | rfl | decide +kernel | assumption); (case k4 => first | assumption | decide +kernel | omega))
    | (refine' eb_tyA ?k1 ?k2 ?k3 ?k4; (case k1 => walk_at "ev"); (case k2 => walk_at "ev"); (case k3 => first | rfl | decide +kernel | assumption); (case k4 => first | assumption | decide +kernel | omega))
    | (refine' eb_ty ?k1 ?k2 ?k3 ?k4 ?k5; (case k1 => walk_at "ev"); (case k2 => walk_at "ev"); (case k3 => first | assumption | rfl); (case k4 => first | assumption | decide +kernel | omega); (case k5 => first | assumption | decide +kernel | omega)))
  | ((with_reducible show EB _ (tTest (tOp (rIn _ _) _ _)) _ _); refine' eb_in ?k1 ?k2 ?k3; (case k1 => walk_at "ev"); (case k2 => walk_at "ev"); (case k3 => decide +kernel))
  | ((with_reducible show EB _ (tOr _ _) _ _); first
    | (refine' eb_or (b := true) ?k1 ?k2 ?k3; (case k1 => walk_at "eb"); (case k2 => intro z; cases z); (case k3 => intro _; rfl))
    | (refine' eb_or (b := false) ?k1 ?k2 ?k3; (case k1 => walk_at "eb"); (case k2 => intro _; walk_at "eb"); (case k3 => intro z; cases z)))
  | ((with_reducible show EB _ (tAnd _ _) _ _); first
    | (refine' eb_and (b := false) ?k1 ?k2 ?k3; (case k1 => walk_at "eb"); (case k2 => intro z; cases z); (case k3 => intro _; rfl))
    | (refine' eb_and (b := true) ?k1 ?k2 ?k3; (case k1 => walk_at "eb"); (case k2 => intro _; walk_at "eb"); (case k3 => intro z; cases z)))
  | ((with_reducible show EB _ (tNot _) _ _); first | (refine' eb_not (b := true) ?k1 rfl; (case k1 => walk_at "eb")) | (refine' eb_not (b := false) ?k1 rfl; (case k1 => walk_at "eb")))
  | ((with_reducible show EB _ (tB _) _ _); refine' eb_val ?k1; (case k1 => walk_at "ev")))
local macro_rules | `(tactic| walk_at "rd") => `(tactic| first
  | ((with_reducible show RD _ (tRet _) _ _); refine' rd_ret ?k1; (case k1 => walk_at "ev"))
  | ((with_reducible show RD _ (tSeq (tIfS _ _ tNext) _) _ _); (first
    | ((with_reducible refine' rd_skip ?k1 ?k2); (case k1 => walk_at "eb"))
    | ((with_reducible refine' rd_take ?k1 ?k2); (case k1 => walk_at "eb"))); (walk_at "rd"))
  | ((with_reducible show RD _ (tIfS _ _ _) _ _); (first
    | ((with_reducible refine' rd_yes ?k1 ?k2); (case k1 => walk_at "eb"))
    | ((with_reducible refine' rd_no ?k1 ?k2); (case k1 => walk_at "eb"))); (walk_at "rd"))
  | ((with_reducible show RD _ (tSeq _ _) _ _); (with_reducible refine' rd_sn ?k1 ?k2); (case k1 => walk_at "nd"); (case k2 => walk_at "rd")))
local macro_rules | `(tactic| walk_at "nd") => `(tactic| first
  | ((with_reducible show ND _ tNext _ _); exact nd_next)
  | ((with_reducible show ND _ (tAsg _ _) _ _); refine' nd_asg ?k1; (case k1 => walk_at "ev"))
  | ((with_reducible show ND _ (tIfS _ _ _) _ _); (first
    | ((with_reducible refine' nd_yes ?k1 ?k2); (case k1 => walk_at "eb"))
    | ((with_reducible refine' nd_no ?k1 ?k2); (case k1 => walk_at "eb"))); (walk_at "nd"))
  | ((with_reducible show ND _ (tSeq _ _) _ _); (with_reducible refine' nd_sn ?k1 ?k2); (case k1 => walk_at "nd"); (case k2 => walk_at "nd")))
local macro_rules | `(tactic| walk_at "cl") => `(tactic| first | assumption | skip)
section
variable {P : Program} {w : World} {K : PySem.W.Frag} {mg : Str → Option Value} {base : Heap}
theorem ok_join_step (T : Tx w K mg) {n k : Nat} (hk : 1 ≤ k) (c_join : C8.Cal P w K mg base k "join" (spD K (RJ n)) []) : C8.Cal P w K mg base (k + 2) "join" (spD K (RJ (n + 1))) [] := by
  have c_join_plain := ok_join_plain T c_join
  have c_join_give := ok_join_give T hk c_join
  obtain ⟨vANY, uANY, hANY_checks, rANY_checks, RA⟩ := gc_ANY_checks T
  refine mk_join T fun fd F => ok_data F sc_join (fun l d h => by obtain ⟨a, b, c, rfl, _⟩ := h; rfl) fun cdv A outer s H E l d hr h => ?_
  obtain ⟨a, b, c, rfl, d1, d2, hj, rfl⟩ := h
  refine ⟨_, (pss_cons (ps_if (pt_cmpR (op_eqD hr.units) (pv 0) (pe_glob rfl hANY_checks rANY_checks) (nomark _)) (pss_one (ps_ret (pv 1))) pss_nil)
  (pss_cons (ps_if (pt_cmpR op_eq (pe_ix ix_tup (pv 0) pe_int (fun _ _ => rfl)) pe_str (nomark _)) (pss_one (ps_ret (pv 0))) pss_nil)
  (pss_cons (ps_if (pt_cmpR op_eq (pe_ix ix_tup (pv 0) pe_int (fun _ _ => rfl)) pe_str (nomark _)) (pss_one (ps_ret (pe_tup (pa_cons pe_str (pa_cons (pe_ix ix_tup (pv 0) pe_int (fun _ _ => rfl)) (pa_cons (pe_ix ix_tup (pv 0) pe_int (fun _ _ => rfl)) (pa_cons (C8.pe_c c_join hr (by omega) rfl (pa_cons (pe_ix ix_tup (pv 0) pe_int (fun _ _ => rfl)) (pa_cons (pv 1) pa_nil))) pa_nil))))))) pss_nil)
  (pss_cons (ps_if (pt_cmpR op_eq (pe_ix ix_tup (pv 0) pe_int (fun _ _ => rfl)) pe_str (nomark _)) (pss_one (ps_ret (C8.pe_c c_join_give hr (by omega) rfl (pa_cons (pv 0) (pa_cons (pv 1) pa_nil))))) pss_nil)
  (pss_cons (ps_if (pt_cmpR op_eq (pe_ix ix_tup (pv 1) pe_int (fun _ _ => rfl)) pe_str (nomark _)) (pss_one (ps_ret (pv 1))) pss_nil)
  (pss_cons (ps_if (pt_cmpR op_eq (pe_ix ix_tup (pv 1) pe_int (fun _ _ => rfl)) pe_str (nomark _)) (pss_one (ps_ret (pe_tup (pa_cons pe_str (pa_cons (C8.pe_c c_join_plain hr (by omega) rfl (pa_cons (pv 0) (pa_cons (pe_ix ix_tup (pv 1) pe_int (fun _ _ => rfl)) pa_nil))) pa_nil))))) pss_nil)
  (pss_one (ps_ret (C8.pe_c c_join_plain hr (by omega) rfl (pa_cons (pv 0) (pa_cons (pv 1) pa_nil))))))))))), ?_⟩
  have pl : plainJ (joinF n) a b = some c → RJp n [Ck.d a, Ck.d b] (Ck.d c) := fun h => ⟨a, b, c, rfl, d1, d2, h, rfl⟩
  cases a
  case any =>
    cases hj
    walk_at "rd"
  case take g n1 s1 i =>
    obtain ⟨x, hx, hj⟩ := Option.map_eq_some_iff.mp (show (joinF n i b).map (.take g n1 s1) = some c from hj)
    subst hj
    simp only [dp] at d1
    have q1 := rj hx (by omega) d2
    walk_at "rd"
  case give g =>
    simp only [dp] at d1
    have q1 : RJg n [Ck.d (.give g), Ck.d b] (Ck.d c) := ⟨g, b, c, rfl, by omega, d2, hj, rfl⟩
    walk_at "rd"
  all_goals
    cases b
    case give g =>
      obtain ⟨x, hx, hj⟩ := Option.map_eq_some_iff.mp hj
      subst hj
      simp only [dp] at d2
      have q1 : RJp n [_, Ck.d g] (Ck.d x) := ⟨_, g, x, rfl, d1, by omega, hx, rfl⟩
      walk_at "rd"
    all_goals
      have q1 := pl hj
      walk_at "rd"
/-- the level of join with n left -/
abbrev LJ (n : Nat) : Nat := 2 * n + 1
theorem ok_join (T : Tx w K mg) : ∀ n : Nat, C8.Cal P w K mg base (LJ n) "join" (spD K (RJ n)) []
  | 0 => by
    refine mk_join T fun fd F => ok_data F sc_join (fun l d h => by obtain ⟨a, b, c, rfl, _⟩ := h; rfl) fun cdv A outer s H E l d hr h => ?_
    obtain ⟨a, b, c, rfl, d1, d2, hj, rfl⟩ := h
    cases hj
  | n + 1 => by
    have c := ok_join_step T (show 1 ≤ 2 * n + 1 by omega) (ok_join T n)
    exact c
/-! ### inner_checks, check_size -/
def inner : Ck → List Ck
  | .fn s t => [s, t] | .pr s t => [s, t] | .bx s t => [s, t] | .give g => [g] | .take _ _ _ i => [i] | _ => []
/-- a promise that hands back a new list -/
def spL (K : PySem.W.Frag) (R : List D → List D → Prop) : Sp := fun vs H Q _ => ∃ l m, Reps K H l vs ∧ R l m ∧ ∀ p xs H', Ex H H' → H p = none → H' p = some (.lst xs) → Reps K H' m xs → Q (.ref p) H'
/-- t returns a new list -/
def RL (K : PySem.W.Frag) (t : TS) (ds : Lo) (l : List D) : Prop := ∀ (D : L2.Ends) σ H, LoOk K H σ ds → (∀ p xs H', Ex H H' → H p = none → H' p = some (.lst xs) → Reps K H' l xs → D.rt (.ref p) H') → t D σ H
theorem rl_ret {K : PySem.W.Frag} {as : TA} {ds : Lo} {l : List D} (h : EDs K as ds l) (hl : l.length ≤ 1000) : RL K (tRet (tLst as)) ds l := fun D σ H L q => h σ H L _ fun vs H' e' r =>
  ⟨by rw [r.len]; exact Nat.le_of_lt (small1000 hl), fun p hp => q p vs _ (e'.trans (Ex.new hp)) (fresh_back e' hp) upd_same (r.mono (tm_new hp))⟩
theorem rl_skip {K : PySem.W.Frag} {tt : TT} {t u : TS} {ds : Lo} {l : List D} (h : EB K tt ds false) (hu : RL K u ds l) : RL K (tSeq (tIfS tt t tNext) u) ds l := fun D σ H L q => h σ H L _ fun H' e' =>
  iteF (hu D σ H' (L.mono (Tm.ex e')) fun p xs H2 e2 hp h2 r => q p xs H2 (e'.trans e2) (fresh_back e' hp) h2 r)
theorem rl_take {K : PySem.W.Frag} {tt : TT} {t u w : TS} {ds : Lo} {l : List D} (h : EB K tt ds true) (hu : RL K t ds l) : RL K (tSeq (tIfS tt t w) u) ds l := fun D σ H L q => h σ H L _ fun H' e' =>
  iteT (hu { D with nx := u D } σ H' (L.mono (Tm.ex e')) fun p xs H2 e2 hp h2 r => q p xs H2 (e'.trans e2) (fresh_back e' hp) h2 r)
def RIn : List D → List D → Prop := fun l m => ∃ c, l = [Ck.d c] ∧ m = (inner c).map Ck.d
theorem ok_list {x qual : Str} {params : Arguments} {body : List Stmt} {scope : Scope} {f : Addr} {fd : FuncData} {N ps : List Str} {k : Nat} {R : List D → List D → Prop} (F : FunD K x qual params body scope [] [] f fd) (S : FnScope N ps scope)
    (len : ∀ l d, R l d → l.length = ps.length)
    (hb : ∀ (cdv : Value) (A : Around) (outer : List Env) (s : Shared) (H : Hp) (E : XK) (l m : List D), Room k (A.deeper (envOfC qual scope s.heap.objs.size f cdv)) → R l m →
      ∃ t, PSs (cxOf C8.CX0 P w K mg base N qual scope f cdv A outer s H E).nox body t ∧ RL K t (l.map some ++ List.replicate (N.length - ps.length) none) m) : FnOk P w K mg base C8.CX0 (k + 1) f fd ps (spL K R) := by
  refine F.ok S (fun vs H Q E h => ?_) fun cdv A outer s H vs Q E hr h => ?_
  · obtain ⟨l, m, h1, h2, _⟩ := h
    rw [h1.len]; exact len l m h2
  · obtain ⟨l, m, h1, h2, h3⟩ := h
    obtain ⟨t, ht, hd⟩ := hb cdv A outer s H E l m hr h2
    refine ⟨t, ht.nox, hd _ _ _ ?_ fun p xs H' e hp h4 r => h3 p xs H' e hp h4 r⟩
    unfold L2.start
    rw [h1.len, len l m h2]
    exact lo_start _ h1
theorem ok_inner (T : Tx w K mg) : C8.Cal P w K mg base 1 "inner_checks" (spL K RIn) [] := by
  obtain ⟨vC, uC, hCOMPOUND, rCOMPOUND, RC⟩ := gc_COMPOUND T
  have RC' : ∀ H, Rep K H (.t ((["fun", "pair", "box"] : List Str).map D.s)) vC := RC
  clear RC
  refine mk_inner_checks T fun fd F => ok_list F sc_inner_checks (fun l d h => by obtain ⟨c, rfl, _⟩ := h; rfl) fun cdv A outer s H E l m hr h => ?_
  obtain ⟨c, rfl, rfl⟩ := h
  refine ⟨_, (pss_cons (ps_if (pt_cmpR op_in_seq (pe_ix ix_tup (pv 0) pe_int (fun _ _ => rfl)) (pe_glob rfl hCOMPOUND rCOMPOUND) (by rfl)) (pss_one (ps_ret (pe_lst (pa_cons (pe_ix ix_tup (pv 0) pe_int (fun _ _ => rfl)) (pa_cons (pe_ix ix_tup (pv 0) pe_int (fun _ _ => rfl)) pa_nil))))) pss_nil)
  (pss_cons (ps_if (pt_cmpR op_eq (pe_ix ix_tup (pv 0) pe_int (fun _ _ => rfl)) pe_str (nomark _)) (pss_one (ps_ret (pe_lst (pa_cons (pe_ix ix_tup (pv 0) pe_int (fun _ _ => rfl)) pa_nil)))) pss_nil)
  (pss_cons (ps_if (pt_cmpR op_eq (pe_ix ix_tup (pv 0) pe_int (fun _ _ => rfl)) pe_str (nomark _)) (pss_one (ps_ret (pe_lst (pa_cons (pe_ix ix_tup (pv 0) pe_int (fun _ _ => rfl)) pa_nil)))) pss_nil)
  (pss_one (ps_ret (pe_lst pa_nil)))))), ?_⟩
  cases c
  case any => exact rl_skip (by walk_at "eb") (rl_skip (by walk_at "eb") (rl_skip (by walk_at "eb") (rl_ret (by walk_at "es") (Nat.le_of_ble_eq_true rfl))))
  case same => exact rl_skip (by walk_at "eb") (rl_skip (by walk_at "eb") (rl_skip (by walk_at "eb") (rl_ret (by walk_at "es") (Nat.le_of_ble_eq_true rfl))))
  case give => exact rl_skip (by walk_at "eb") (rl_take (by walk_at "eb") (rl_ret (by walk_at "es") (Nat.le_of_ble_eq_true rfl)))
  case take => exact rl_skip (by walk_at "eb") (rl_skip (by walk_at "eb") (rl_take (by walk_at "eb") (rl_ret (by walk_at "es") (Nat.le_of_ble_eq_true rfl))))
  all_goals exact rl_take (by walk_at "eb") (rl_ret (by walk_at "es") (Nat.le_of_ble_eq_true rfl))
def RSz (n : Nat) : List D → D → Prop := fun l d => ∃ c, l = [Ck.d c] ∧ dp c ≤ n ∧ d = .i (size c)
theorem size_inner (c : Ck) : size c = 1 + ((inner c).map size).sum := by
  cases c <;> simp [size, inner] <;> omega
theorem dp_inner {c x : Ck} (h : x ∈ inner c) : dp x < dp c := by
  cases c <;> simp [inner] at h <;> first | (subst h; simp [dp]; done) | (rcases h with rfl | rfl <;> simp [dp] <;> omega)
theorem lo2 {H : Hp} {d : D} {σ : L2.St} (L : LoOk K H σ [some d, none]) : ∃ v x, σ = [some v, x] ∧ Rep K H d v := by
  match σ, L with
  | [], L => exact L.elim
  | none :: _, L => exact L.elim
  | [some v], ⟨_, L⟩ => exact L.elim
  | some v :: none :: [], ⟨h, _⟩ => exact ⟨v, none, rfl, h⟩
  | some v :: some x :: [], ⟨h, _⟩ => exact ⟨v, some x, rfl, h⟩
  | some v :: none :: none :: _, ⟨_, L⟩ => exact False.elim L
  | some v :: none :: some _ :: _, ⟨_, L⟩ => exact False.elim L
  | some v :: some _ :: none :: _, ⟨_, L⟩ => exact False.elim L
  | some v :: some _ :: some _ :: _, ⟨_, L⟩ => exact False.elim L
theorem ok_size_step (T : Tx w K mg) {n k : Nat} (hk : 1 ≤ k) (c_check_size : C8.Cal P w K mg base k "check_size" (spD K (RSz n)) []) : C8.Cal P w K mg base (k + 1) "check_size" (spD K (RSz (n + 1))) [] := by
  have c_inner_checks := ok_inner (P := P) (base := base) T
  refine mk_check_size T fun fd F => ok_data F sc_check_size (fun l d h => by obtain ⟨c, rfl, _⟩ := h; rfl) fun cdv A outer s H E l d hr h => ?_
  obtain ⟨c, rfl, hd, rfl⟩ := h
  refine ⟨_, (pss_one (ps_ret (pe_op op_add pe_int (pe_callB (cr_sum rfl) (by rfl) (fr_sum T) (by decide +kernel) (pa_cons (pe_lc (own := [("inner", 1)]) (g := gName 1) (tt := tYes) rfl sc_check_size.nd (pi_list (C8.pe_c c_inner_checks hr (by omega) rfl (pa_cons (pv 0) pa_nil))) (blkOk_by (N := ["check", "inner"]) (sc := defScope s_check_size) (by decide +kernel)) (fun _ _ _ _ _ => pg_name (i := 1) sc_check_size.nd rfl (Or.inl rfl)) (fun _ _ _ _ _ => pts_nil) (fun _ _ _ _ _ => (C8.pe_c c_check_size hr (by omega) rfl (pa_cons (pv 1) pa_nil)))) pa_nil))))), ?_⟩
  refine rd_ret fun σ H L Q q => ?_
  obtain ⟨v, x0, rfl, rv⟩ := lo2 L
  refine ⟨v, rfl, [Ck.d c], (inner c).map Ck.d, .cons rv .nil, ⟨c, rfl, rfl⟩, fun p xs H1 e1 np hp rx => ?_⟩
  refine ⟨p, rfl, ⟨_, SqL.of hp⟩, fun Dl nD => ?_⟩
  have npD : p ≠ Dl := ne_of_none hp nD
  have hl : xs.length = (inner c).length := by rw [rx.len, List.length_map]
  refine lc_list (K := K) (a := p) (xs := xs) (fun i H2 => Ex H1 H2 ∧ H2 Dl = some (.lst (((inner c).take i).map fun x => V.int (size x)))) ⟨Ex.new nD, upd_same⟩ (fun i H2 _ ⟨e2, _⟩ => SqL.of (e2 _ _ hp)) (fun i x H2 hx ⟨e2, h2⟩ => ?_) fun H2 ⟨e2, h2⟩ => ?_
  · have hi : i < (inner c).length := by rw [← hl]; exact (List.getElem?_eq_some_iff.mp hx).1
    obtain ⟨y, hy, ry⟩ := rx.get (j := i) (d := Ck.d (inner c)[i]) (by rw [List.getElem?_map, List.getElem?_eq_getElem hi] <;> rfl)
    rw [hx] at hy; cases hy
    have hm : (inner c)[i] ∈ inner c := List.getElem_mem hi
    have hdp := dp_inner hm
    refine ⟨rfl, x, rfl, [Ck.d (inner c)[i]], _, .cons (ry.ex e2) .nil, ⟨_, rfl, by omega, rfl⟩, fun u H3 e3 ru => ?_⟩
    cases ru
    refine ⟨_, e3 _ _ h2, by rw [List.length_map, List.length_take]; exact small1000 (by have : (inner c).length ≤ 2 := (by cases c <;> simp [inner]); omega), fun a o z => ?_, ?_⟩
    · have z3 := e3 _ _ (e2 _ _ z)
      have na : a ≠ Dl := ne_of_none z nD
      rw [upd_ne na]; exact z3
    · rw [upd_same, List.take_add_one, List.getElem?_eq_getElem hi, List.map_append] <;> rfl
  · rw [hl, List.take_length] at h2
    refine ⟨_, (inner c).map size, rfl, SqL.of (by rw [h2, List.map_map] <;> rfl), ?_⟩
    refine ⟨1, _, rfl, rfl, q _ _ (e1.trans e2) ?_⟩
    show V.int (1 + ((inner c).map size).sum) = V.int (size c)
    rw [size_inner c]
theorem ok_size (T : Tx w K mg) : ∀ n : Nat, C8.Cal P w K mg base (n + 1) "check_size" (spD K (RSz n)) []
  | 0 => by
    refine mk_check_size T fun fd F => ok_data F sc_check_size (fun l d h => by obtain ⟨c, rfl, _⟩ := h; rfl) fun cdv A outer s H E l d hr h => ?_
    obtain ⟨c, rfl, hd, rfl⟩ := h
    have : 1 ≤ dp c := by cases c <;> simp [dp]
    omega
  | n + 1 => ok_size_step T (by omega) (ok_size T n)
end
end Hn
end

/- HnW3 -/
section
set_option Elab.async false
set_option linter.all false
set_option maxRecDepth 100000
set_option maxHeartbeats 4000000
namespace Hn
open PySem PySem.Spec PyProof.Rows L2 Evl
local macro_rules | `(tactic| walk_at "ev") => `(tactic| first
  | ((with_reducible show ED _ (tVar _) _ _); exact ed_var rfl)
  | ((with_reducible show ED _ (tC _) _ _); first | exact ed_s | exact ed_i | exact ed_b | exact ed_n | exact ed_c (by assumption))
  | ((with_reducible show ED _ (tOp (rIxT _) _ (tC (V.int 0))) _ _); refine' ed_ix0 ?k1 ?k2; (case k1 => walk_at "ev"); (case k2 => rfl))
  | ((with_reducible show ED _ (tOp (rIxT _) _ (tC (V.int 1))) _ _); refine' ed_ix1 ?k1 ?k2; (case k1 => walk_at "ev"); (case k2 => rfl))
  | ((with_reducible show ED _ (tOp (rIxT _) _ (tC (V.int 2))) _ _); refine' ed_ix2 ?k1 ?k2; (case k1 => walk_at "ev"); (case k2 => rfl))
  | ((with_reducible show ED _ (tOp (rIxT _) _ (tC (V.int 3))) _ _); refine' ed_ix3 ?k1 ?k2; (case k1 => walk_at "ev"); (case k2 => rfl))
  | ((with_reducible show ED _ (tOp (rIxT _) _ (tC (V.int 4))) _ _); refine' ed_ix4 ?k1 ?k2; (case k1 => walk_at "ev"); (case k2 => rfl))
  | ((with_reducible show ED _ (tOp (rIxT _) _ (tC (V.int 5))) _ _); refine' ed_ix5 ?k1 ?k2; (case k1 => walk_at "ev"); (case k2 => rfl))
  | ((with_reducible show ED _ (tOp (rIxT _) _ (tVar _)) _ _); first
    | (refine' ed_ixE (j := 1) ?k1 ?k2 ?k3 ?k4; (case k1 => walk_at "ev"); (case k2 => walk_at "ev"); (case k3 => rfl); (case k4 => first | rfl | decide))
    | (refine' ed_ixE (j := 2) ?k1 ?k2 ?k3 ?k4; (case k1 => walk_at "ev"); (case k2 => walk_at "ev"); (case k3 => rfl); (case k4 => first | rfl | decide)))
  | ((with_reducible show ED _ (tCB _ (tCons _ tNil)) _ _); refine' ed_len ?k1 ?k2; (case k1 => walk_at "ev"); (case k2 => rfl))
  | ((with_reducible show ED _ (tTup _) _ _); refine' ed_tup ?k1 ?k2; (case k1 => walk_at "es"); (case k2 => exact Nat.le_of_ble_eq_true rfl))
  | ((with_reducible show ED _ (tCall _ _ _ _) _ _); refine' ed_call ?k1 ?k2; (case k1 => walk_at "es"); (case k2 => walk_at "cl"))
  | ((with_reducible show ED _ (tCallN _ _ _ _ _ _ _) _ _); refine' ed_callK ?k1 ?k2 ?k3 ?k4 ?k5; (case k1 => walk_at "es"); (case k2 => walk_at "es"); (case k3 => walk_at "cl"); (case k4 => rfl); (case k5 => rfl))
  | ((with_reducible show ED _ (tOp (rI0 _) _ _) _ _); first
    | (refine' ed_add ?k1 ?k2; (case k1 => walk_at "ev"); (case k2 => walk_at "ev"))
    | (refine' ed_sub ?k1 ?k2; (case k1 => walk_at "ev"); (case k2 => walk_at "ev"))
    | (refine' ed_lt ?k1 ?k2; (case k1 => walk_at "ev"); (case k2 => walk_at "ev"))))
local macro_rules | `(tactic| walk_at "es") => `(tactic| first
  | ((with_reducible show EDs _ tNil _ _); exact es_nil)
  | ((with_reducible show EDs _ (tCons _ _) _ _); refine' es_cons ?k1 ?k2; (case k1 => walk_at "ev"); (case k2 => walk_at "es")))
local macro_rules | `(tactic| walk_at "eb") => `(tactic| first
  | ((with_reducible show EB _ (tTest (tOp rEq _ _)) _ _); refine' eb_eqS ?k1 ?k2 ?k3; (case k1 => walk_at "ev"); (case k2 => walk_at "ev"); (case k3 => first | decide +kernel | assumption))
  | ((with_reducible show EB _ (tTest (tOp rNe _ _)) _ _); refine' eb_neS ?k1 ?k2 ?k3; (case k1 => walk_at "ev"); (case k2 => walk_at "ev"); (case k3 => first | decide +kernel | assumption))
  | ((with_reducible show EB _ (tTest (tOp (rEqD _) _ _)) _ _); first
    | (refine' eb_ck ?k1 ?k2 ?k3 ?k4; (case k1 => walk_at "ev"); (case k2 => walk_at "ev"); (case k3 => first | rfl | decide +kernel | assumption); (case k4 => first | assumption | decide +kernel | omega))
    | (refine' eb_tyA ?k1 ?k2 ?k3 ?k4; (case k1 => walk_at "ev"); (case k2 => walk_at "ev"); (case k3 => first | rfl | decide +kernel | assumption); (case k4 => first | assumption | decide +kernel | omega))
    | (refine' eb_ty ?k1 ?k2 ?k3 ?k4 ?k5; (case k1 => walk_at "ev"); (case k2 => walk_at "ev"); (case k3 => first | assumption | rfl); (case k4 => first | assumption | decide +kernel | omega); (case k5 => first | assumption | decide +kernel | omega)))
  | ((with_reducible show EB _ (tTest (tOp (rIn _ _) _ _)) _ _); refine' eb_in ?k1 ?k2 ?k3; (case k1 => walk_at "ev"); (case k2 => walk_at "ev"); (case k3 => decide +kernel))
  | ((with_reducible show EB _ (tOr _ _) _ _); first
    | (refine' eb_or (b := true) ?k1 ?k2 ?k3; (case k1 => walk_at "eb"); (case k2 => intro z; cases z); (case k3 => intro _; rfl))
    | (refine' eb_or (b := false) ?k1 ?k2 ?k3; (case k1 => walk_at "eb"); (case k2 => intro _; walk_at "eb"); (case k3 => intro z; cases z)))
  | ((with_reducible show EB _ (tAnd _ _) _ _); first
    | (refine' eb_and (b := false) ?k1 ?k2 ?k3; (case k1 => walk_at "eb"); (case k2 => intro z; cases z); (case k3 => intro _; rfl))
    | (refine' eb_and (b := true) ?k1 ?k2 ?k3; (case k1 => walk_at "eb"); (case k2 => intro _; walk_at "eb"); (case k3 => intro z; cases z)))
  | ((with_reducible show EB _ (tNot _) _ _); first | (refine' eb_not (b := true) ?k1 rfl; (case k1 => walk_at "eb")) | (refine' eb_not (b := false) ?k1 rfl; (case k1 => walk_at "eb")))
  | ((with_reducible show EB _ (tB _) _ _); refine' eb_val ?k1; (case k1 => walk_at "ev")))
local macro_rules | `(tactic| walk_at "rd") => `(tactic| first
  | ((with_reducible show RD _ (tRet _) _ _); refine' rd_ret ?k1; (case k1 => walk_at "ev"))
  | ((with_reducible show RD _ (tSeq (tIfS _ _ tNext) _) _ _); (first
    | ((with_reducible refine' rd_skip ?k1 ?k2); (case k1 => walk_at "eb"))
    | ((with_reducible refine' rd_take ?k1 ?k2); (case k1 => walk_at "eb"))); (walk_at "rd"))
  | ((with_reducible show RD _ (tIfS _ _ _) _ _); (first
    | ((with_reducible refine' rd_yes ?k1 ?k2); (case k1 => walk_at "eb"))
    | ((with_reducible refine' rd_no ?k1 ?k2); (case k1 => walk_at "eb"))); (walk_at "rd"))
  | ((with_reducible show RD _ (tSeq _ _) _ _); (with_reducible refine' rd_sn ?k1 ?k2); (case k1 => walk_at "nd"); (case k2 => walk_at "rd")))
local macro_rules | `(tactic| walk_at "nd") => `(tactic| first
  | ((with_reducible show ND _ tNext _ _); exact nd_next)
  | ((with_reducible show ND _ (tAsg _ _) _ _); refine' nd_asg ?k1; (case k1 => walk_at "ev"))
  | ((with_reducible show ND _ (tIfS _ _ _) _ _); (first
    | ((with_reducible refine' nd_yes ?k1 ?k2); (case k1 => walk_at "eb"))
    | ((with_reducible refine' nd_no ?k1 ?k2); (case k1 => walk_at "eb"))); (walk_at "nd"))
  | ((with_reducible show ND _ (tSeq _ _) _ _); (with_reducible refine' nd_sn ?k1 ?k2); (case k1 => walk_at "nd"); (case k2 => walk_at "nd")))
local macro_rules | `(tactic| walk_at "cl") => `(tactic| first | assumption | skip)
section
variable {K : PySem.W.Frag} {H : Hp}
theorem loS {σ : L2.St} {d : D} {ds : Lo} (L : LoOk K H σ (some d :: ds)) : ∃ v r, σ = some v :: r ∧ Rep K H d v ∧ LoOk K H r ds := by
  match σ, L with
  | [], L => exact L.elim
  | none :: _, L => exact L.elim
  | some v :: r, L => exact ⟨v, r, rfl, L.1, L.2⟩
theorem loN {σ : L2.St} {ds : Lo} (L : LoOk K H σ (none :: ds)) : ∃ x r, σ = x :: r ∧ LoOk K H r ds := by
  match σ, L with
  | [], L => exact L.elim
  | none :: r, L => exact ⟨none, r, rfl, L⟩
  | some v :: r, L => exact ⟨some v, r, rfl, L⟩
theorem lo0 {σ : L2.St} (L : LoOk K H σ []) : σ = [] := by
  match σ, L with
  | [], L => rfl
  | none :: _, L => exact L.elim
  | some _ :: _, L => exact L.elim
end
def Ty.cs : Ty → List D
  | .fn a b => [a.d, b.d] | .pr a b => [a.d, b.d] | .bx a => [a.d] | _ => []
theorem Ty.d_eq (A : Ty) : A.d = .t (.s A.k :: A.cs) := by cases A <;> rfl
section
variable {P : Program} {w : World} {K : PySem.W.Frag} {mg : Str → Option Value} {base : Heap}
/-! ### consistent -/
def RCo (n : Nat) : List D → D → Prop := fun l d => ∃ A B, l = [Ty.d A, Ty.d B] ∧ cons A B = true ∧ ht A < n ∧ n ≤ 50 ∧ ht B ≤ 50 ∧ d = .b true
theorem ok_consistent_step (T : Tx w K mg) {n k : Nat} (c_consistent : C8.Cal P w K mg base k "consistent" (spD K (RCo n)) []) : C8.Cal P w K mg base (k + 1) "consistent" (spD K (RCo (n + 1))) [] := by
  obtain ⟨vA, uA, hANY_types, rANY_types, RA⟩ := gc_ANY_types T
  refine mk_consistent T fun fd F => ok_data F sc_consistent (fun l d h => by obtain ⟨A, B, rfl, _⟩ := h; rfl) fun cdv A' outer s H E l d hr h => ?_
  obtain ⟨A, B, rfl, hc, hA, hn, hB, rfl⟩ := h
  refine ⟨_, (pss_cons (ps_if (PW.pt (pw_or (pt_cmpR (op_eqD hr.units) (pv 0) (pe_glob rfl hANY_types rANY_types) (nomark _)) (pw_or1 (pt_cmpR (op_eqD hr.units) (pv 1) (pe_glob rfl hANY_types rANY_types) (nomark _))))) (pss_one (ps_ret pe_bl)) pss_nil)
  (pss_cons (ps_if (pt_cmpR op_ne (pe_ix ix_tup (pv 0) pe_int (fun _ _ => rfl)) (pe_ix ix_tup (pv 1) pe_int (fun _ _ => rfl)) (nomark _)) (pss_one (ps_ret pe_bl)) pss_nil)
  (pss_cons (ps_for PassesOwn.never rfl (pi_range2 rfl (fr_range T) (pa_cons pe_int (pa_cons (pe_callB call_len_seq (by rfl) (fr_len T) (by decide +kernel) (pa_cons (pv 0) pa_nil)) pa_nil))) (pg_name (i := 2) sc_consistent.nd rfl (Or.inl rfl)) (pss_one (ps_if (pt_not (pt_val (C8.pe_c c_consistent hr (by omega) rfl (pa_cons (pe_ix ix_tup (pv 0) (pv 2) (fun _ _ => rfl)) (pa_cons (pe_ix ix_tup (pv 1) (pv 2) (fun _ _ => rfl)) pa_nil))))) (pss_one (ps_ret pe_bl)) pss_nil)))
  (pss_one (ps_ret pe_bl))))), ?_⟩
  have hA' : ht A ≤ 60 := by omega
  have hB' : ht B ≤ 60 := by omega
  by_cases eA : A = .any
  · subst eA
    walk_at "rd"
  by_cases eB : B = .any
  · subst eB
    have e1 : decide (A = Ty.any) = false := decide_eq_false eA
    walk_at "rd"
  have e1 : decide (A = Ty.any) = false := decide_eq_false eA
  have e2 : decide (B = Ty.any) = false := decide_eq_false eB
  refine rd_skip (by walk_at "eb") ?_
  cases A <;> cases B <;> (first | (cases hc; done) | (exact absurd rfl eA) | (exact absurd rfl eB) | skip)
  case int.int => exact rd_skip (by walk_at "eb") (rd_sn (nd_forR (m := 0) (lo := 1) (hi := 1) (by walk_at "es") rfl (by decide) (by decide) rfl fun i hi => absurd hi (Nat.not_lt_zero _)) (by walk_at "rd"))
  case bool.bool => exact rd_skip (by walk_at "eb") (rd_sn (nd_forR (m := 0) (lo := 1) (hi := 1) (by walk_at "es") rfl (by decide) (by decide) rfl fun i hi => absurd hi (Nat.not_lt_zero _)) (by walk_at "rd"))
  case unit.unit => exact rd_skip (by walk_at "eb") (rd_sn (nd_forR (m := 0) (lo := 1) (hi := 1) (by walk_at "es") rfl (by decide) (by decide) rfl fun i hi => absurd hi (Nat.not_lt_zero _)) (by walk_at "rd"))
  case bx.bx a b =>
    simp only [cons, ht] at hc hA hB
    have q1 : RCo n [Ty.d a, Ty.d b] (.b true) := ⟨a, b, rfl, hc, by omega, by omega, by omega, rfl⟩
    refine rd_skip (by walk_at "eb") (rd_sn (nd_forR (m := 1) (lo := 1) (hi := 2) (by walk_at "es") rfl (by decide) (by decide) rfl fun i hi => ?_) (by walk_at "rd"))
    obtain rfl : i = 0 := by omega
    walk_at "nd"
  all_goals
    rename_i a b a' b'
    simp only [cons, ht, Bool.and_eq_true] at hc hA hB
    have q1 : RCo n [Ty.d a, Ty.d a'] (.b true) := ⟨a, a', rfl, hc.1, by omega, by omega, by omega, rfl⟩
    have q2 : RCo n [Ty.d b, Ty.d b'] (.b true) := ⟨b, b', rfl, hc.2, by omega, by omega, by omega, rfl⟩
    refine rd_skip (by walk_at "eb") (rd_sn (nd_forR (m := 2) (lo := 1) (hi := 3) (by walk_at "es") rfl (by decide) (by decide) rfl fun i hi => ?_) (by walk_at "rd"))
    obtain rfl | rfl : i = 0 ∨ i = 1 := by omega
    · walk_at "nd"
    · walk_at "nd"
theorem ok_consistent (T : Tx w K mg) : ∀ n : Nat, C8.Cal P w K mg base (n + 1) "consistent" (spD K (RCo n)) []
  | 0 => by
    refine mk_consistent T fun fd F => ok_data F sc_consistent (fun l d h => by obtain ⟨A, B, rfl, _⟩ := h; rfl) fun cdv A outer s H E l d hr h => ?_
    obtain ⟨A, B, rfl, hc, hA, _⟩ := h
    omega
  | n + 1 => ok_consistent_step T (ok_consistent T n)
/-! ### ground, ground_type -/
def RGr : List D → D → Prop := fun l d => ∃ A, l = [Ty.d A] ∧ A ≠ .any ∧ d = .s (gd A).str
theorem ok_ground (T : Tx w K mg) : C8.Cal P w K mg base 1 "ground" (spD K RGr) [] := by
  refine mk_ground T fun fd F => ok_data F sc_ground (fun l d h => by obtain ⟨c, rfl, _⟩ := h; rfl) fun cdv A outer s H E l d hr h => ?_
  obtain ⟨c, rfl, hp, rfl⟩ := h
  refine ⟨_, (pss_one (ps_ret (pe_ix ix_tup (pv 0) pe_int (fun _ _ => rfl)))), ?_⟩
  cases c <;> (first | (exact absurd rfl hp) | skip) <;> (walk_at "rd")
def RGt : List D → D → Prop := fun l d => ∃ g, l = [.s (Gd.str g)] ∧ d = (gty g).d
theorem ok_ground_type (T : Tx w K mg) : C8.Cal P w K mg base 1 "ground_type" (spD K RGt) [] := by
  refine mk_ground_type T fun fd F => ok_data F sc_ground_type (fun l d h => by obtain ⟨g, rfl, _⟩ := h; rfl) fun cdv A outer s H E l d hr h => ?_
  obtain ⟨g, rfl, rfl⟩ := h
  refine ⟨_, (pss_one (ps_ret (pe_ix ix_kdict (pe_glob (v := .ref _) rfl T.gt rfl) (pv 0) (fun _ _ => rfl)))), ?_⟩
  refine rd_ret fun σ H1 L Q q => ?_
  obtain ⟨v, r, rfl, hv, L'⟩ := loS L
  cases hv
  cases g
  case int => obtain ⟨z, k, hz⟩ := T.ts 0 _ rfl; exact ⟨_, rfl, _, _, z, rfl, rfl, k, q z H1 (Ex.refl H1) (hz H1)⟩
  case bool => obtain ⟨z, k, hz⟩ := T.ts 1 _ rfl; exact ⟨_, rfl, _, _, z, rfl, rfl, k, q z H1 (Ex.refl H1) (hz H1)⟩
  case unit => obtain ⟨z, k, hz⟩ := T.ts 2 _ rfl; exact ⟨_, rfl, _, _, z, rfl, rfl, k, q z H1 (Ex.refl H1) (hz H1)⟩
  case fn => obtain ⟨z, k, hz⟩ := T.ts 3 _ rfl; exact ⟨_, rfl, _, _, z, rfl, rfl, k, q z H1 (Ex.refl H1) (hz H1)⟩
  case pr => obtain ⟨z, k, hz⟩ := T.ts 4 _ rfl; exact ⟨_, rfl, _, _, z, rfl, rfl, k, q z H1 (Ex.refl H1) (hz H1)⟩
  case bx => obtain ⟨z, k, hz⟩ := T.ts 5 _ rfl; exact ⟨_, rfl, _, _, z, rfl, rfl, k, q z H1 (Ex.refl H1) (hz H1)⟩
/-! ### compound_check, check_of -/
def RCh (n : Nat) : List D → D → Prop := fun l d => ∃ A B m s c, l = [Ty.d A, Ty.d B, .i m, .i s] ∧ ht A ≤ 50 ∧ ht B ≤ 50 ∧ chkF n A B m s = some c ∧ d = Ck.d c
def RCm (n : Nat) : List D → D → Prop := fun l d => ∃ A B m s c, l = [Ty.d A, Ty.d B, .i m, .i s] ∧ ht A ≤ 50 ∧ ht B ≤ 50 ∧ compC (chkF n) A B m s = some c ∧ d = Ck.d c
theorem rch {n : Nat} {A B : Ty} {m s : Int} {c : Ck} (h : chkF n A B m s = some c) (h1 : ht A ≤ 50) (h2 : ht B ≤ 50) : RCh n ([Ty.d A, Ty.d B] ++ [.i m, .i s]) (Ck.d c) := ⟨A, B, m, s, c, rfl, h1, h2, h, rfl⟩
theorem ok_compound (T : Tx w K mg) {n k : Nat} (c_check_of : CalN P w K mg base k "check_of" 2 ["number", "side"] (spD K (RCh n))) : C8.Cal P w K mg base (k + 1) "compound_check" (spD K (RCm n)) [] := by
  refine mk_compound_check T fun fd F => ok_data F sc_compound_check (fun l d h => by obtain ⟨A, B, m, s, c, rfl, _⟩ := h; rfl) fun cdv A' outer s H E l d hr h => ?_
  obtain ⟨A, B, m, s, c, rfl, hA, hB, hj, rfl⟩ := h
  refine ⟨_, (pss_cons (ps_set (i := 4) sc_compound_check.nd rfl (Or.inl rfl) (pe_ix ix_tup (pv 0) pe_int (fun _ _ => rfl)))
  (pss_cons (ps_if (pt_cmpR op_eq (pv 4) pe_str (nomark _)) (pss_one (ps_set (i := 5) sc_compound_check.nd rfl (Or.inl rfl) (pe_k c_check_of hr (by omega) rfl (pa_cons (pe_ix ix_tup (pv 0) pe_int (fun _ _ => rfl)) (pa_cons (pe_ix ix_tup (pv 1) pe_int (fun _ _ => rfl)) pa_nil)) (pk_cons (pv 2) (pk_cons (pv 3) pk_nil))))) (pss_one (ps_set (i := 5) sc_compound_check.nd rfl (Or.inl rfl) (pe_k c_check_of hr (by omega) rfl (pa_cons (pe_ix ix_tup (pv 1) pe_int (fun _ _ => rfl)) (pa_cons (pe_ix ix_tup (pv 0) pe_int (fun _ _ => rfl)) pa_nil)) (pk_cons (pv 2) (pk_cons (pe_op op_sub pe_int (pv 3)) pk_nil))))))
  (pss_cons (ps_set (i := 6) sc_compound_check.nd rfl (Or.inl rfl) (pe_op op_sub (pe_callB call_len_seq (by rfl) (fr_len T) (by decide +kernel) (pa_cons (pv 0) pa_nil)) pe_int))
  (pss_cons (ps_set (i := 7) sc_compound_check.nd rfl (Or.inl rfl) (pe_k c_check_of hr (by omega) rfl (pa_cons (pe_ix ix_tup (pv 0) (pv 6) (fun _ _ => rfl)) (pa_cons (pe_ix ix_tup (pv 1) (pv 6) (fun _ _ => rfl)) pa_nil)) (pk_cons (pv 2) (pk_cons (pv 3) pk_nil))))
  (pss_one (ps_ret (pe_tup (pa_cons (pv 4) (pa_cons (pv 5) (pa_cons (pv 7) pa_nil)))))))))), ?_⟩
  cases A <;> cases B <;> (first | (cases hj; done) | skip)
  all_goals
    obtain ⟨x, hx, hj⟩ := Option.bind_eq_some_iff.mp hj
    obtain ⟨y, hy, hj⟩ := Option.map_eq_some_iff.mp hj
    cases hj
    simp only [ht] at hA hB
    have q1 := rch hx (by omega) (by omega)
    have q2 := rch hy (by omega) (by omega)
    refine rd_sn (nd_asg (by walk_at "ev")) ?_
    refine rd_sn (ds' := _) (by walk_at "nd") ?_
    walk_at "rd"
end
end Hn
end

/- HnW4 -/
section
set_option Elab.async false
set_option linter.all false
set_option maxRecDepth 100000
set_option maxHeartbeats 4000000
namespace Hn
open PySem PySem.Spec PyProof.Rows L2 Evl
local macro_rules | `(tactic| walk_at "ev") => `(tactic| first
  | ((with_reducible show ED _ (tVar _) _ _); exact ed_var rfl)
  | ((with_reducible show ED _ (tC _) _ _); first | exact ed_s | exact ed_i | exact ed_b | exact ed_n | exact ed_c (by assumption))
  | ((with_reducible show ED _ (tOp (rIxT _) _ (tC (V.int 0))) _ _); refine' ed_ix0 ?k1 ?k2; (case k1 => walk_at "ev"); (case k2 => rfl))
  | ((with_reducible show ED _ (tOp (rIxT _) _ (tC (V.int 1))) _ _); refine' ed_ix1 ?k1 ?k2; (case k1 => walk_at "ev"); (case k2 => rfl))
  | ((with_reducible show ED _ (tOp (rIxT _) _ (tC (V.int 2))) _ _); refine' ed_ix2 ?k1 ?k2; (case k1 => walk_at "ev"); (case k2 => rfl))
  | ((with_reducible show ED _ (tOp (rIxT _) _ (tC (V.int 3))) _ _); refine' ed_ix3 ?k1 ?k2; (case k1 => walk_at "ev"); (case k2 => rfl))
  | ((with_reducible show ED _ (tOp (rIxT _) _ (tC (V.int 4))) _ _); refine' ed_ix4 ?k1 ?k2; (case k1 => walk_at "ev"); (case k2 => rfl))
  | ((with_reducible show ED _ (tOp (rIxT _) _ (tC (V.int 5))) _ _); refine' ed_ix5 ?k1 ?k2; (case k1 => walk_at "ev"); (case k2 => rfl))
  | ((with_reducible show ED _ (tOp (rIxT _) _ (tVar _)) _ _); first
    | (refine' ed_ixE (j := 1) ?k1 ?k2 ?k3 ?k4; (case k1 => walk_at "ev"); (case k2 => walk_at "ev"); (case k3 => rfl); (case k4 => first | rfl | decide))
    | (refine' ed_ixE (j := 2) ?k1 ?k2 ?k3 ?k4; (case k1 => walk_at "ev"); (case k2 => walk_at "ev"); (case k3 => rfl); (case k4 => first | rfl | decide)))
  | ((with_reducible show ED _ (tCB _ (tCons _ tNil)) _ _); refine' ed_len ?k1 ?k2; (case k1 => walk_at "ev"); (case k2 => rfl))
  | ((with_reducible show ED _ (tTup _) _ _); refine' ed_tup ?k1 ?k2; (case k1 => walk_at "es"); (case k2 => exact Nat.le_of_ble_eq_true rfl))
  | ((with_reducible show ED _ (tCall _ _ _ _) _ _); refine' ed_call ?k1 ?k2; (case k1 => walk_at "es"); (case k2 => walk_at "cl"))
  | ((with_reducible show ED _ (tCallN _ _ _ _ _ _ _) _ _); refine' ed_callK ?k1 ?k2 ?k3 ?k4 ?k5; (case k1 => walk_at "es"); (case k2 => walk_at "es"); (case k3 => walk_at "cl"); (case k4 => rfl); (case k5 => rfl))
  | ((with_reducible show ED _ (tOp (rI0 _) _ _) _ _); first
    | (refine' ed_add ?k1 ?k2; (case k1 => walk_at "ev"); (case k2 => walk_at "ev"))
    | (refine' ed_sub ?k1 ?k2; (case k1 => walk_at "ev"); (case k2 => walk_at "ev"))
    | (refine' ed_lt ?k1 ?k2; (case k1 => walk_at "ev"); (case k2 => walk_at "ev"))))
local macro_rules | `(tactic| walk_at "es") => `(tactic| first
  | ((with_reducible show EDs _ tNil _ _); exact es_nil)
  | ((with_reducible show EDs _ (tCons _ _) _ _); refine' es_cons ?k1 ?k2; (case k1 => walk_at "ev"); (case k2 => walk_at "es")))
local macro_rules | `(tactic| walk_at "eb") => `(tactic| first
  | ((with_reducible show EB _ (tTest (tOp rEq _ _)) _ _); refine' eb_eqS ?k1 ?k2 ?k3; (case k1 => walk_at "ev"); (case k2 => walk_at "ev"); (case k3 => first | decide +kernel | assumption))
  | ((with_reducible show EB _ (tTest (tOp rNe _ _)) _ _); refine' eb_neS ?k1 ?k2 ?k3; (case k1 => walk_at "ev"); (case k2 => walk_at "ev"); (case k3 => first | decide +kernel | assumption))
  | ((with_reducible show EB _ (tTest (tOp (rEqD _) _ _)) _ _); first
    | (refine' eb_ck ?k1 ?k2 ?k3 ?k4; (case k1 => walk_at "ev"); (case k2 => walk_at "ev"); (case k3 => first | rfl | decide +kernel | assumption); (case k4 => first | assumption | decide +kernel | omega))
    | (refine' eb_tyA ?k1 ?k2 ?k3 ?k4; (case k1 => walk_at "ev"); (case k2 => walk_at "ev"); (case k3 => first | rfl | decide +kernel | assumption); (case k4 => first | assumption | decide +kernel | omega))
    | (refine' eb_ty ?k1 ?k2 ?k3 ?k4 ?k5; (case k1 => walk_at "ev"); (case k2 => walk_at "ev"); (case k3 => first | assumption | rfl); (case k4 => first | assumption | decide +kernel | omega); (case k5 => first | assumption | decide +kernel | omega)))
  | ((with_reducible show EB _ (tTest (tOp (rIn _ _) _ _)) _ _); refine' eb_in ?k1 ?k2 ?k3; (case k1 => walk_at "ev"); (case k2 => walk_at "ev"); (case k3 => decide +kernel))
  | ((with_reducible show EB _ (tOr _ _) _ _); first
    | (refine' eb_or (b := true) ?k1 ?k2 ?k3; (case k1 => walk_at "eb"); (case k2 => intro z; cases z); (case k3 => intro _; rfl))
    | (refine' eb_or (b := false) ?k1 ?k2 ?k3; (case k1 => walk_at "eb"); (case k2 => intro _; walk_at "eb"); (case k3 => intro z; cases z)))
  | ((with_reducible show EB _ (tAnd _ _) _ _); first
    | (refine' eb_and (b := false) ?k1 ?k2 ?k3; (case k1 => walk_at "eb"); (case k2 => intro z; cases z); (case k3 => intro _; rfl))
    | (refine' eb_and (b := true) ?k1 ?k2 ?k3; (case k1 => walk_at "eb"); (case k2 => intro _; walk_at "eb"); (case k3 => intro z; cases z)))
  | ((with_reducible show EB _ (tNot _) _ _); first | (refine' eb_not (b := true) ?k1 rfl; (case k1 => walk_at "eb")) | (refine' eb_not (b := false) ?k1 rfl; (case k1 => walk_at "eb")))
  | ((with_reducible show EB _ (tB _) _ _); refine' eb_val ?k1; (case k1 => walk_at "ev")))
local macro_rules | `(tactic| walk_at "rd") => `(tactic| first
  | ((with_reducible show RD _ (tRet _) _ _); refine' rd_ret ?k1; (case k1 => walk_at "ev"))
  | ((with_reducible show RD _ (tSeq (tIfS _ _ tNext) _) _ _); (first
    | ((with_reducible refine' rd_skip ?k1 ?k2); (case k1 => walk_at "eb"))
    | ((with_reducible refine' rd_take ?k1 ?k2); (case k1 => walk_at "eb"))); (walk_at "rd"))
  | ((with_reducible show RD _ (tIfS _ _ _) _ _); (first
    | ((with_reducible refine' rd_yes ?k1 ?k2); (case k1 => walk_at "eb"))
    | ((with_reducible refine' rd_no ?k1 ?k2); (case k1 => walk_at "eb"))); (walk_at "rd"))
  | ((with_reducible show RD _ (tSeq _ _) _ _); (with_reducible refine' rd_sn ?k1 ?k2); (case k1 => walk_at "nd"); (case k2 => walk_at "rd")))
local macro_rules | `(tactic| walk_at "nd") => `(tactic| first
  | ((with_reducible show ND _ tNext _ _); exact nd_next)
  | ((with_reducible show ND _ (tAsg _ _) _ _); refine' nd_asg ?k1; (case k1 => walk_at "ev"))
  | ((with_reducible show ND _ (tIfS _ _ _) _ _); (first
    | ((with_reducible refine' nd_yes ?k1 ?k2); (case k1 => walk_at "eb"))
    | ((with_reducible refine' nd_no ?k1 ?k2); (case k1 => walk_at "eb"))); (walk_at "nd"))
  | ((with_reducible show ND _ (tSeq _ _) _ _); (with_reducible refine' nd_sn ?k1 ?k2); (case k1 => walk_at "nd"); (case k2 => walk_at "nd")))
local macro_rules | `(tactic| walk_at "cl") => `(tactic| first | assumption | skip)
section
variable {P : Program} {w : World} {K : PySem.W.Frag} {mg : Str → Option Value} {base : Heap}
theorem kb_check_of {fd : FuncData} (F : F_check_of K fd) : KBn K fd ["source", "target", "number", "side"] 2 ["number", "side"] (fun us ws => us ++ ws) (fun vs zs => vs ++ zs) := by
  obtain ⟨oc, od, dV, kV, doc, pm, an, cdv, ct, osl, rfl, lk, hcd, hD, hK⟩ := F.ex
  rcases hD with ⟨_, rfl⟩ | ⟨e, _⟩
  · exact ⟨fun s us ws X l1 l2 => match us, l1, ws, l2 with
      | [_, _], _, [_, _], _ => .of_eq rfl, fun r1 r2 => r1.append r2⟩
  · exact absurd rfl e
theorem mkN_check_of (T : Tx w K mg) {k : Nat} {sp : Sp} (G : ∀ fd, F_check_of K fd → FnOk P w K mg base C8.CX0 k (He.ga K "check_of") fd ["source", "target", "number", "side"] sp) : CalN P w K mg base k "check_of" 2 ["number", "side"] sp := by
  obtain ⟨fd, F⟩ := D_check_of T
  exact ⟨_, fd, _, G fd F, gl_check_of T, F.kp, kb_check_of F⟩
theorem ht_gty (g : Gd) : ht (gty g) ≤ 1 := by cases g <;> decide
theorem ok_check_of_step (T : Tx w K mg) {n k : Nat} (hk : 1 ≤ k) (c_check_of : CalN P w K mg base k "check_of" 2 ["number", "side"] (spD K (RCh n))) : CalN P w K mg base (k + 2) "check_of" 2 ["number", "side"] (spD K (RCh (n + 1))) := by
  have c_compound_check := ok_compound T c_check_of
  have c_ground := ok_ground (P := P) (base := base) T
  have c_ground_type := ok_ground_type (P := P) (base := base) T
  obtain ⟨vA, uA, hANY_checks, rANY_checks, RA⟩ := gc_ANY_checks T
  obtain ⟨vS, uS, hSIMPLE, rSIMPLE, RS⟩ := gc_SIMPLE T
  have RS' : ∀ H, Rep K H (.t ((["int", "bool", "unit"] : List Str).map D.s)) vS := RS
  clear RS
  refine mkN_check_of T fun fd F => ok_data F sc_check_of (fun l d h => by obtain ⟨A, B, m, s, c, rfl, _⟩ := h; rfl) fun cdv A' outer s' H E l d hr h => ?_
  obtain ⟨A, B, m, s, c, rfl, hA, hB, hj, rfl⟩ := h
  refine ⟨_, (pss_cons (ps_if (PW.pt (pw_and (pt_cmpR (op_eqD hr.units) (pv 0) (pe_glob rfl hANY_checks rANY_checks) (nomark _)) (pw_and1 (pt_cmpR (op_eqD hr.units) (pv 1) (pe_glob rfl hANY_checks rANY_checks) (nomark _))))) (pss_one (ps_ret (pe_glob rfl hANY_checks rANY_checks))) pss_nil)
  (pss_cons (ps_if (pt_cmpR (op_eqD hr.units) (pv 1) (pe_glob rfl hANY_checks rANY_checks) (nomark _)) (pss_cons (ps_set (i := 4) sc_check_of.nd rfl (Or.inl rfl) (C8.pe_c c_ground_type hr (by omega) rfl (pa_cons (C8.pe_c c_ground hr (by omega) rfl (pa_cons (pv 0) pa_nil)) pa_nil)))
  (pss_one (ps_ret (pe_tup (pa_cons pe_str (pa_cons (pe_k c_check_of hr (by omega) rfl (pa_cons (pv 0) (pa_cons (pv 4) pa_nil)) (pk_cons (pv 2) (pk_cons (pv 3) pk_nil))) pa_nil)))))) pss_nil)
  (pss_cons (ps_if (pt_cmpR (op_eqD hr.units) (pv 0) (pe_glob rfl hANY_checks rANY_checks) (nomark _)) (pss_cons (ps_set (i := 5) sc_check_of.nd rfl (Or.inl rfl) (C8.pe_c c_ground hr (by omega) rfl (pa_cons (pv 1) pa_nil)))
  (pss_one (ps_ret (pe_tup (pa_cons pe_str (pa_cons (pv 5) (pa_cons (pe_tup (pa_cons (pv 2) (pa_cons (pv 3) pa_nil))) (pa_cons (pe_k c_check_of hr (by omega) rfl (pa_cons (C8.pe_c c_ground_type hr (by omega) rfl (pa_cons (pv 5) pa_nil)) (pa_cons (pv 1) pa_nil)) (pk_cons (pv 2) (pk_cons (pv 3) pk_nil))) pa_nil)))))))) pss_nil)
  (pss_cons (ps_if (pt_cmpR op_in_seq (pe_ix ix_tup (pv 0) pe_int (fun _ _ => rfl)) (pe_glob rfl hSIMPLE rSIMPLE) (by rfl)) (pss_one (ps_ret (pe_tup (pa_cons pe_str (pa_cons (pe_ix ix_tup (pv 0) pe_int (fun _ _ => rfl)) pa_nil))))) pss_nil)
  (pss_one (ps_ret (C8.pe_c c_compound_check hr (by omega) rfl (pa_cons (pv 0) (pa_cons (pv 1) (pa_cons (pv 2) (pa_cons (pv 3) pa_nil))))))))))), ?_⟩
  have hA' : ht A ≤ 60 := by omega
  have hB' : ht B ≤ 60 := by omega
  unfold chkF at hj
  by_cases eA : A = .any
  · by_cases eB : B = .any
    · subst eA; subst eB
      rw [if_pos ⟨rfl, rfl⟩] at hj
      cases hj
      walk_at "rd"
    · rw [if_neg (fun z => eB z.2), if_neg eB, if_pos eA] at hj
      subst eA
      obtain ⟨x, hx, hj⟩ := Option.map_eq_some_iff.mp hj
      subst hj
      have e2 : decide (B = Ty.any) = false := decide_eq_false eB
      have q1 : RGr [Ty.d B] (.s (gd B).str) := ⟨B, rfl, eB, rfl⟩
      have q2 : RGt [.s (gd B).str] (gty (gd B)).d := ⟨gd B, rfl, rfl⟩
      have q3 := rch hx (by have := ht_gty (gd B); omega) hB
      walk_at "rd"
  · have e1 : decide (A = Ty.any) = false := decide_eq_false eA
    by_cases eB : B = .any
    · rw [if_neg (fun z => eA z.1), if_pos eB] at hj
      subst eB
      obtain ⟨x, hx, hj⟩ := Option.map_eq_some_iff.mp hj
      subst hj
      have q1 : RGr [Ty.d A] (.s (gd A).str) := ⟨A, rfl, eA, rfl⟩
      have q2 : RGt [.s (gd A).str] (gty (gd A)).d := ⟨gd A, rfl, rfl⟩
      have q3 := rch hx hA (by have := ht_gty (gd A); omega)
      walk_at "rd"
    · have e2 : decide (B = Ty.any) = false := decide_eq_false eB
      rw [if_neg (fun z => eA z.1), if_neg eB, if_neg eA] at hj
      have q1 : compC (chkF n) A B m s = some c → RCm n [Ty.d A, Ty.d B, .i m, .i s] (Ck.d c) := fun h => ⟨A, B, m, s, c, rfl, hA, hB, h, rfl⟩
      refine rd_skip (by walk_at "eb") (rd_skip (by walk_at "eb") (rd_skip (by walk_at "eb") ?_))
      cases A
      case any => exact absurd rfl eA
      case int =>
        cases B <;> (first | (cases hj; done) | skip)
        cases hj
        walk_at "rd"
      case bool =>
        cases B <;> (first | (cases hj; done) | skip)
        cases hj
        walk_at "rd"
      case unit =>
        cases B <;> (first | (cases hj; done) | skip)
        cases hj
        walk_at "rd"
      case fn =>
        have q2 := q1 hj
        walk_at "rd"
      case pr =>
        have q2 := q1 hj
        walk_at "rd"
      case bx =>
        have q2 := q1 hj
        walk_at "rd"
abbrev LC (n : Nat) : Nat := 2 * n + 1
theorem ok_check_of (T : Tx w K mg) : ∀ n : Nat, CalN P w K mg base (LC n) "check_of" 2 ["number", "side"] (spD K (RCh n))
  | 0 => by
    refine mkN_check_of T fun fd F => ok_data F sc_check_of (fun l d h => by obtain ⟨A, B, m, s, c, rfl, _⟩ := h; rfl) fun cdv A' outer s' H E l d hr h => ?_
    obtain ⟨A, B, m, s, c, rfl, hA, hB, hj, rfl⟩ := h
    cases hj
  | n + 1 => by
    have c := ok_check_of_step T (show 1 ≤ 2 * n + 1 by omega) (ok_check_of T n)
    exact c
/-! ### meeting, of a type with itself -/
def RMe (n : Nat) : List D → D → Prop := fun l d => ∃ A, l = [Ty.d A, Ty.d A] ∧ ht A < n ∧ n ≤ 50 ∧ d = Ty.d A
theorem cs_ht {A : Ty} {i : Nat} {d : D} (h : A.cs[i]? = some d) : ∃ B : Ty, d = B.d ∧ ht B < ht A := by
  cases A
  case fn a b =>
    match i, h with
    | 0, h => cases h; exact ⟨a, rfl, by simp only [ht]; omega⟩
    | 1, h => cases h; exact ⟨b, rfl, by simp only [ht]; omega⟩
    | i + 2, h => simp [Ty.cs] at h
  case pr a b =>
    match i, h with
    | 0, h => cases h; exact ⟨a, rfl, by simp only [ht]; omega⟩
    | 1, h => cases h; exact ⟨b, rfl, by simp only [ht]; omega⟩
    | i + 2, h => simp [Ty.cs] at h
  case bx a =>
    match i, h with
    | 0, h => cases h; exact ⟨a, rfl, by simp only [ht]; omega⟩
    | i + 1, h => simp [Ty.cs] at h
  all_goals simp [Ty.cs] at h
theorem cs_len (A : Ty) : A.cs.length ≤ 2 := by cases A <;> simp [Ty.cs]
theorem ok_meeting_step (T : Tx w K mg) {n k : Nat} (c_meeting : C8.Cal P w K mg base k "meeting" (spD K (RMe n)) []) : C8.Cal P w K mg base (k + 1) "meeting" (spD K (RMe (n + 1))) [] := by
  obtain ⟨vA, uA, hANY_types, rANY_types, RA⟩ := gc_ANY_types T
  refine mk_meeting T fun fd F => ok_data F sc_meeting (fun l d h => by obtain ⟨A, rfl, _⟩ := h; rfl) fun cdv A' outer s H E l d hr h => ?_
  obtain ⟨A, rfl, hA, hn, rfl⟩ := h
  refine ⟨_, (pss_cons (ps_if (pt_cmpR (op_eqD hr.units) (pv 0) (pe_glob rfl hANY_types rANY_types) (nomark _)) (pss_one (ps_ret (pv 1))) pss_nil)
  (pss_cons (ps_if (pt_cmpR (op_eqD hr.units) (pv 1) (pe_glob rfl hANY_types rANY_types) (nomark _)) (pss_one (ps_ret (pv 0))) pss_nil)
  (pss_cons (ps_if (pt_cmpR op_ne (pe_ix ix_tup (pv 0) pe_int (fun _ _ => rfl)) (pe_ix ix_tup (pv 1) pe_int (fun _ _ => rfl)) (nomark _)) (pss_one (ps_ret pe_non)) pss_nil)
  (pss_cons (ps_set (i := 2) sc_meeting.nd rfl (Or.inl rfl) (pe_lst pa_nil))
  (pss_cons (ps_for PassesOwn.never rfl (pi_range2 rfl (fr_range T) (pa_cons pe_int (pa_cons (pe_callB call_len_seq (by rfl) (fr_len T) (by decide +kernel) (pa_cons (pv 0) pa_nil)) pa_nil))) (pg_name (i := 3) sc_meeting.nd rfl (Or.inl rfl)) (pss_cons (ps_set (i := 4) sc_meeting.nd rfl (Or.inl rfl) (C8.pe_c c_meeting hr (by omega) rfl (pa_cons (pe_ix ix_tup (pv 0) (pv 3) (fun _ _ => rfl)) (pa_cons (pe_ix ix_tup (pv 1) (pv 3) (fun _ _ => rfl)) pa_nil))))
  (pss_cons (ps_if (pt_cmpR op_isN (pv 4) pe_non (nomark _)) (pss_one (ps_ret pe_non)) pss_nil)
  (pss_one (ps_expr (pe_bm PySem.F.plainAttrs_list PySem.F.slot_list_append PySem.F.type_list_append mt_append (pv 2) (pa_cons (pv 4) pa_nil)))))))
  (pss_one (ps_ret (pe_op op_catT (pe_tup (pa_cons (pe_ix ix_tup (pv 0) pe_int (fun _ _ => rfl)) pa_nil)) (pe_callTy call_tuple_of (by rfl) (fr_tuple T) (by decide +kernel) (pa_cons (pv 2) pa_nil)))))))))), ?_⟩
  have hA' : ht A ≤ 60 := by omega
  by_cases eA : A = .any
  · subst eA
    walk_at "rd"
  have e1 : decide (A = Ty.any) = false := decide_eq_false eA
  refine rd_skip (by walk_at "eb") (rd_skip (by walk_at "eb") ?_)
  have eds : ∀ i : Nat, ∀ d, A.cs[i]? = some d → (D.s A.k :: A.cs)[i + 1]? = some d := fun i d h => by simpa using h
  have dA := Ty.d_eq A
  refine rd_skip ?_ ?_
  · refine eb_neS (x := A.k) (y := A.k) (ed_ix0 (l := D.s A.k :: A.cs) (ed_var (by rw [← dA]; rfl)) rfl) (ed_ix0 (l := D.s A.k :: A.cs) (ed_var (by rw [← dA]; rfl)) rfl) (by rw [decide_eq_true rfl] <;> rfl)
  intro De σ H1 L q
  obtain ⟨v0, σ, rfl, r0, La⟩ := loS L
  obtain ⟨v1, σ, rfl, r1, Lb⟩ := loS La
  obtain ⟨x2, σ, rfl, Lc⟩ := loN Lb
  obtain ⟨x3, σ, rfl, Ld⟩ := loN Lc
  obtain ⟨x4, σ, rfl, Le⟩ := loN Ld
  obtain rfl := lo0 Le
  -- parts = []
  refine ⟨Nat.zero_le _, fun p np => ?_⟩
  have e2 : Ex H1 (upd H1 p (.lst [])) := Ex.new np
  have r0' := r0.ex e2
  rw [dA] at r0'
  obtain ⟨a0, xs0, rfl, s0, q0⟩ := r0'
  refine ⟨_, rfl, a0, xs0, rfl, .inr s0, 1, (xs0.length : Int), rfl, ?_⟩
  have hl : xs0.length = A.cs.length + 1 := by rw [q0.len, List.length_cons]
  have hl2 := cs_len A
  refine ⟨⟨by decide, by decide, by omega, by omega⟩, ?_⟩
  have en : ((xs0.length : Int) - 1).toNat = A.cs.length := by omega
  rw [en]
  refine for_range (fun i σ' H2 => LoOk K H2 σ' [some A.d, some A.d, some (.r p), none, none] ∧ Ex H1 H2 ∧ ∃ xs, H2 p = some (.lst xs) ∧ Reps K H2 (A.cs.take i) xs) ?_ (fun i σ' H2 hi ⟨L2, e3, xs, hp, rx⟩ => ?_) fun σ' H2 ⟨L2, e3, xs, hp, rx⟩ => ?_
  · exact ⟨⟨r0.ex e2, r1.ex e2, rfl, by cases x3 <;> cases x4 <;> trivial⟩, e2, [], upd_same, rfl⟩
  · obtain ⟨B, hB, htB⟩ := cs_ht (A := A) (i := i) (List.getElem?_eq_getElem hi)
    have L3 := L2.set (v := .int (1 + i)) (d := .i (1 + i)) rfl 3
    have q1 : RMe n [Ty.d B, Ty.d B] (Ty.d B) := ⟨B, rfl, by omega, by omega, rfl⟩
    have ix : (D.s A.k :: A.cs)[i + 1]? = some B.d := eds i _ (by rw [List.getElem?_eq_getElem hi, hB])
    have ev : ∀ j : Nat, j < 2 → ED K (tOp (rIxT K) (tVar j) (tVar 3)) [some A.d, some A.d, some (.r p), some (.i (1 + i)), none] B.d := fun j hj =>
      ed_ixE (l := D.s A.k :: A.cs) (j := i + 1) (ed_var (by rw [← dA]; match j, hj with | 0, _ => rfl | 1, _ => rfl)) (ed_var rfl) ix (by omega)
    have n1 : ND K (tSeq (tAsg (tCall (spD K (RMe n)) [] C8.E0 (tCons (tOp (rIxT K) (tVar 0) (tVar 3)) (tCons (tOp (rIxT K) (tVar 1) (tVar 3)) tNil))) (gName 4)) (tIfS (tTest (tOp (fun x y H Q => y = V.non ∧ Q (.bl (decide (x = .non))) H) (tVar 4) (tC .non))) (tRet (tC .non)) tNext))
        [some A.d, some A.d, some (.r p), some (.i (1 + i)), none] [some A.d, some A.d, some (.r p), some (.i (1 + i)), some B.d] :=
      nd_sn (nd_asg (ed_call (es_cons (ev 0 (by decide)) (es_cons (ev 1 (by decide)) es_nil)) q1)) (nd_no (eb_isN0 (l := D.s B.k :: B.cs) (ed_var (by rw [← Ty.d_eq B]; rfl))) nd_next)
    refine n1 _ _ H2 L3 fun σ3 H3 e4 L4 => ?_
    obtain ⟨v0', σ3, rfl, _, L5⟩ := loS L4
    obtain ⟨v1', σ3, rfl, _, L6⟩ := loS L5
    obtain ⟨v2', σ3, rfl, h2', L7⟩ := loS L6
    obtain ⟨v3', σ3, rfl, _, L8⟩ := loS L7
    obtain ⟨v4', σ3, rfl, r4, L9⟩ := loS L8
    obtain rfl := lo0 L9
    have h2'' : v2' = .ref p := h2'
    subst h2''
    have hp3 := e4 _ _ hp
    refine ⟨.ref p, rfl, .inl ⟨rfl, _, SqL.of hp3⟩, v4', rfl, p, xs, v4', rfl, rfl, hp3, by rw [rx.len, List.length_take]; exact small1000 (by omega), ?_⟩
    have tm : Tm K H3 (upd H3 p (.lst (xs ++ [v4']))) := tm_lst hp3
    refine ⟨LoOk.forget (j := 4) (d := B.d) rfl (LoOk.forget (j := 3) (d := .i (1 + i)) rfl (L4.mono tm)), fun a o z => ?_, xs ++ [v4'], upd_same, ?_⟩
    · have na : a ≠ p := ne_of_none z np
      rw [upd_ne na]
      exact e4 _ _ (e3 _ _ z)
    · rw [List.take_add_one, List.getElem?_eq_getElem hi, hB]
      exact ((rx.mono (Tm.ex e4)).mono tm).app (.cons (r4.mono tm) .nil)
  · obtain ⟨v0', σ', rfl, r0', L3⟩ := loS L2
    obtain ⟨v1', σ', rfl, _, L4⟩ := loS L3
    obtain ⟨v2', σ', rfl, h2', L5⟩ := loS L4
    have h2'' : v2' = .ref p := h2'
    subst h2''
    rw [List.take_length] at rx
    have r0'' := r0'
    rw [dA] at r0''
    obtain ⟨a1, xs1, rfl, s1, q1⟩ := r0''
    obtain ⟨y0, hy0, ry0⟩ := q1.get (j := 0) (d := .s A.k) rfl
    refine ⟨_, rfl, a1, xs1, 0, y0, rfl, rfl, s1, atI_nat (j := 0) hy0, by show 1 ≤ sizeLine; decide, fun t nt => ?_⟩
    have e4 : Ex H2 (upd H2 t (.tup [y0])) := Ex.new nt
    refine ⟨_, rfl, p, xs, rfl, .inl ⟨SqL.of (e4 _ _ hp), fun u nu => ?_⟩⟩
    have e5 : Ex (upd H2 t (.tup [y0])) (upd (upd H2 t (.tup [y0])) u (.tup xs)) := Ex.new nu
    refine ⟨t, u, [y0], xs, rfl, rfl, SqT.of (e5 _ _ upd_same), SqT.of upd_same, List.cons_ne_nil _ _, ?_, fun hx => ?_, fun hx z nz => ?_⟩
    · show 1 + xs.length ≤ sizeLine
      rw [rx.len]; exact Nat.le_of_lt (small1000 (by omega))
    · have e6 : Ex H1 (upd (upd H2 t (.tup [y0])) u (.tup xs)) := (e3.trans e4).trans e5
      refine q _ _ e6 ?_
      have : A.cs = [] := List.eq_nil_of_length_eq_zero (by rw [← rx.len, hx] <;> rfl)
      rw [dA, this]
      exact rep_tup (e5 _ _ upd_same) (.cons ry0 .nil)
    · have e7 : Ex (upd (upd H2 t (.tup [y0])) u (.tup xs)) (upd (upd (upd H2 t (.tup [y0])) u (.tup xs)) z (.tup ([y0] ++ xs))) := Ex.new nz
      refine q _ _ (((e3.trans e4).trans e5).trans e7) ?_
      rw [dA]
      exact rep_tup upd_same (.cons ry0 (rx.mono (Tm.ex ((e4.trans e5).trans e7))))
theorem ok_meeting (T : Tx w K mg) : ∀ n : Nat, C8.Cal P w K mg base (n + 1) "meeting" (spD K (RMe n)) []
  | 0 => by
    refine mk_meeting T fun fd F => ok_data F sc_meeting (fun l d h => by obtain ⟨A, rfl, _⟩ := h; rfl) fun cdv A outer s H E l d hr h => ?_
    obtain ⟨A, rfl, hA, _⟩ := h
    omega
  | n + 1 => ok_meeting_step T (ok_meeting T n)
end
end Hn
end

/- HnW5 -/
section
set_option Elab.async false
set_option linter.all false
set_option maxRecDepth 100000
set_option maxHeartbeats 4000000
namespace Hn
open PySem PySem.Spec PyProof.Rows L2 Evl
local macro_rules | `(tactic| walk_at "ev") => `(tactic| first
  | ((with_reducible show ED _ (tVar _) _ _); exact ed_var rfl)
  | ((with_reducible show ED _ (tC _) _ _); first | exact ed_s | exact ed_i | exact ed_b | exact ed_n | exact ed_c (by assumption))
  | ((with_reducible show ED _ (tOp (rIxT _) _ (tC (V.int 0))) _ _); refine' ed_ix0 ?k1 ?k2; (case k1 => walk_at "ev"); (case k2 => rfl))
  | ((with_reducible show ED _ (tOp (rIxT _) _ (tC (V.int 1))) _ _); refine' ed_ix1 ?k1 ?k2; (case k1 => walk_at "ev"); (case k2 => rfl))
  | ((with_reducible show ED _ (tOp (rIxT _) _ (tC (V.int 2))) _ _); refine' ed_ix2 ?k1 ?k2; (case k1 => walk_at "ev"); (case k2 => rfl))
  | ((with_reducible show ED _ (tOp (rIxT _) _ (tC (V.int 3))) _ _); refine' ed_ix3 ?k1 ?k2; (case k1 => walk_at "ev"); (case k2 => rfl))
  | ((with_reducible show ED _ (tOp (rIxT _) _ (tC (V.int 4))) _ _); refine' ed_ix4 ?k1 ?k2; (case k1 => walk_at "ev"); (case k2 => rfl))
  | ((with_reducible show ED _ (tOp (rIxT _) _ (tC (V.int 5))) _ _); refine' ed_ix5 ?k1 ?k2; (case k1 => walk_at "ev"); (case k2 => rfl))
  | ((with_reducible show ED _ (tOp (rIxT _) _ (tVar _)) _ _); first
    | (refine' ed_ixE (j := 1) ?k1 ?k2 ?k3 ?k4; (case k1 => walk_at "ev"); (case k2 => walk_at "ev"); (case k3 => rfl); (case k4 => first | rfl | decide))
    | (refine' ed_ixE (j := 2) ?k1 ?k2 ?k3 ?k4; (case k1 => walk_at "ev"); (case k2 => walk_at "ev"); (case k3 => rfl); (case k4 => first | rfl | decide)))
  | ((with_reducible show ED _ (tCB _ (tCons _ tNil)) _ _); refine' ed_len ?k1 ?k2; (case k1 => walk_at "ev"); (case k2 => rfl))
  | ((with_reducible show ED _ (tTup _) _ _); refine' ed_tup ?k1 ?k2; (case k1 => walk_at "es"); (case k2 => exact Nat.le_of_ble_eq_true rfl))
  | ((with_reducible show ED _ (tCall _ _ _ _) _ _); refine' ed_call ?k1 ?k2; (case k1 => walk_at "es"); (case k2 => walk_at "cl"))
  | ((with_reducible show ED _ (tCallN _ _ _ _ _ _ _) _ _); refine' ed_callK ?k1 ?k2 ?k3 ?k4 ?k5; (case k1 => walk_at "es"); (case k2 => walk_at "es"); (case k3 => walk_at "cl"); (case k4 => rfl); (case k5 => rfl))
  | ((with_reducible show ED _ (tOp (rI0 _) _ _) _ _); first
    | (refine' ed_add ?k1 ?k2; (case k1 => walk_at "ev"); (case k2 => walk_at "ev"))
    | (refine' ed_sub ?k1 ?k2; (case k1 => walk_at "ev"); (case k2 => walk_at "ev"))
    | (refine' ed_lt ?k1 ?k2; (case k1 => walk_at "ev"); (case k2 => walk_at "ev"))))
local macro_rules | `(tactic| walk_at "es") => `(tactic| first
  | ((with_reducible show EDs _ tNil _ _); exact es_nil)
  | ((with_reducible show EDs _ (tCons _ _) _ _); refine' es_cons ?k1 ?k2; (case k1 => walk_at "ev"); (case k2 => walk_at "es")))
local macro_rules | `(tactic| walk_at "eb") => `(tactic| first
  | ((with_reducible show EB _ (tTest (tOp rEq _ _)) _ _); refine' eb_eqS ?k1 ?k2 ?k3; (case k1 => walk_at "ev"); (case k2 => walk_at "ev"); (case k3 => first | decide +kernel | assumption))
  | ((with_reducible show EB _ (tTest (tOp rNe _ _)) _ _); refine' eb_neS ?k1 ?k2 ?k3; (case k1 => walk_at "ev"); (case k2 => walk_at "ev"); (case k3 => first | decide +kernel | assumption))
  | ((with_reducible show EB _ (tTest (tOp (rEqD _) _ _)) _ _); first
    | (refine' eb_ck ?k1 ?k2 ?k3 ?k4; (case k1 => walk_at "ev"); (case k2 => walk_at "ev"); (case k3 => first | rfl | decide +kernel | assumption); (case k4 => first | assumption | decide +kernel | omega))
    | (refine' eb_tyA ?k1 ?k2 ?k3 ?k4; (case k1 => walk_at "ev"); (case k2 => walk_at "ev"); (case k3 => first | rfl | decide +kernel | assumption); (case k4 => first | assumption | decide +kernel | omega))
    | (refine' eb_ty ?k1 ?k2 ?k3 ?k4 ?k5; (case k1 => walk_at "ev"); (case k2 => walk_at "ev"); (case k3 => first | assumption | rfl); (case k4 => first | assumption | decide +kernel | omega); (case k5 => first | assumption | decide +kernel | omega)))
  | ((with_reducible show EB _ (tTest (tOp (rIn _ _) _ _)) _ _); refine' eb_in ?k1 ?k2 ?k3; (case k1 => walk_at "ev"); (case k2 => walk_at "ev"); (case k3 => decide +kernel))
  | ((with_reducible show EB _ (tOr _ _) _ _); first
    | (refine' eb_or (b := true) ?k1 ?k2 ?k3; (case k1 => walk_at "eb"); (case k2 => intro z; cases z); (case k3 => intro _; rfl))
    | (refine' eb_or (b := false) ?k1 ?k2 ?k3; (case k1 => walk_at "eb"); (case k2 => intro _; walk_at "eb"); (case k3 => intro z; cases z)))
  | ((with_reducible show EB _ (tAnd _ _) _ _); first
    | (refine' eb_and (b := false) ?k1 ?k2 ?k3; (case k1 => walk_at "eb"); (case k2 => intro z; cases z); (case k3 => intro _; rfl))
    | (refine' eb_and (b := true) ?k1 ?k2 ?k3; (case k1 => walk_at "eb"); (case k2 => intro _; walk_at "eb"); (case k3 => intro z; cases z)))
  | ((with_reducible show EB _ (tNot _) _ _); first | (refine' eb_not (b := true) ?k1 rfl; (case k1 => walk_at "eb")) | (refine' eb_not (b := false) ?k1 rfl; (case k1 => walk_at "eb")))
  | ((with_reducible show EB _ (tB _) _ _); refine' eb_val ?k1; (case k1 => walk_at "ev")))
local macro_rules | `(tactic| walk_at "rd") => `(tactic| first
  | ((with_reducible show RD _ (tRet _) _ _); refine' rd_ret ?k1; (case k1 => walk_at "ev"))
  | ((with_reducible show RD _ (tSeq (tIfS _ _ tNext) _) _ _); (first
    | ((with_reducible refine' rd_skip ?k1 ?k2); (case k1 => walk_at "eb"))
    | ((with_reducible refine' rd_take ?k1 ?k2); (case k1 => walk_at "eb"))); (walk_at "rd"))
  | ((with_reducible show RD _ (tIfS _ _ _) _ _); (first
    | ((with_reducible refine' rd_yes ?k1 ?k2); (case k1 => walk_at "eb"))
    | ((with_reducible refine' rd_no ?k1 ?k2); (case k1 => walk_at "eb"))); (walk_at "rd"))
  | ((with_reducible show RD _ (tSeq _ _) _ _); (with_reducible refine' rd_sn ?k1 ?k2); (case k1 => walk_at "nd"); (case k2 => walk_at "rd")))
local macro_rules | `(tactic| walk_at "nd") => `(tactic| first
  | ((with_reducible show ND _ tNext _ _); exact nd_next)
  | ((with_reducible show ND _ (tAsg _ _) _ _); refine' nd_asg ?k1; (case k1 => walk_at "ev"))
  | ((with_reducible show ND _ (tIfS _ _ _) _ _); (first
    | ((with_reducible refine' nd_yes ?k1 ?k2); (case k1 => walk_at "eb"))
    | ((with_reducible refine' nd_no ?k1 ?k2); (case k1 => walk_at "eb"))); (walk_at "nd"))
  | ((with_reducible show ND _ (tSeq _ _) _ _); (with_reducible refine' nd_sn ?k1 ?k2); (case k1 => walk_at "nd"); (case k2 => walk_at "nd")))
local macro_rules | `(tactic| walk_at "cl") => `(tactic| first | assumption | skip)
section
variable {K : PySem.W.Frag} {tt : TT} {tb u : TS} {ds : Lo} {d : D}
theorem rd_while (W : Nat → Lo → Prop) (m0 : Nat) (h0 : W m0 ds) (hs : ∀ m ds1, W m ds1 → (EB K tt ds1 false ∧ RD K u ds1 d) ∨ (EB K tt ds1 true ∧ ∃ m' ds2, m' < m ∧ W m' ds2 ∧ ND K tb ds1 ds2)) : RD K (tSeq (tWhile tt tb) u) ds d := fun De σ H L q => by
  refine ⟨fun m σ' H' => ∃ ds1, W m ds1 ∧ LoOk K H' σ' ds1 ∧ Ex H H', ⟨m0, ds, h0, L, Ex.refl H⟩, ?_⟩
  rintro m σ' H' ⟨ds1, w1, L1, e1⟩
  rcases hs m ds1 w1 with ⟨b1, r1⟩ | ⟨b1, m', ds2, hm, w2, n2⟩
  · exact b1 σ' H' L1 _ fun H2 e2 => iteF (r1 De σ' H2 (L1.mono (Tm.ex e2)) fun v H3 e3 r3 => q v H3 ((e1.trans e2).trans e3) r3)
  · refine b1 σ' H' L1 _ fun H2 e2 => iteT ⟨fun σ3 H3 => ∃ ds1, W m' ds1 ∧ LoOk K H3 σ3 ds1 ∧ Ex H H3, fun σ3 H3 h => ⟨m', hm, h⟩, ?_⟩
    exact n2 _ σ' H2 (L1.mono (Tm.ex e2)) fun σ3 H3 e3 L3 => ⟨ds2, w2, L3, (e1.trans e2).trans e3⟩
end
section
variable {P : Program} {w : World} {K : PySem.W.Frag} {mg : Str → Option Value} {base : Heap}
def RVg : List D → D → Prop := fun l d => ∃ v g, l = [Va.d v] ∧ vg v = some g ∧ d = .s (Gd.str g)
theorem ok_value_ground (T : Tx w K mg) : C8.Cal P w K mg base 1 "value_ground" (spD K RVg) [] := by
  refine mk_value_ground T fun fd F => ok_data F sc_value_ground (fun l d h => by obtain ⟨v, g, rfl, _⟩ := h; rfl) fun cdv A outer s H E l d hr h => ?_
  obtain ⟨v, g, rfl, hg, rfl⟩ := h
  refine ⟨_, (pss_cons (ps_if (pt_cmpR op_eq (pe_ix ix_tup (pv 0) pe_int (fun _ _ => rfl)) pe_str (nomark _)) (pss_one (ps_ret (pe_ix ix_tup (pe_ix ix_tup (pv 0) pe_int (fun _ _ => rfl)) pe_int (fun _ _ => rfl)))) pss_nil)
  (pss_one (ps_ret (pe_ix ix_tup (pv 0) pe_int (fun _ _ => rfl))))), ?_⟩
  cases v
  case wr v c => cases v <;> (first | (cases hg; done) | skip) <;> cases hg <;> (walk_at "rd")
  all_goals (cases hg; walk_at "rd")
def RWr : List D → D → Prop := fun l d => ∃ v c r, l = [Va.d v, Ck.d c] ∧ wrapV v c = some r ∧ d = Va.d r
theorem ok_wrapped (T : Tx w K mg) : C8.Cal P w K mg base (LJ FJ + 1) "wrapped" (spD K RWr) [] := by
  have c_join := ok_join (P := P) (base := base) T FJ
  refine mk_wrapped T fun fd F => ok_data F sc_wrapped (fun l d h => by obtain ⟨v, c, r, rfl, _⟩ := h; rfl) fun cdv A outer s H E l d hr h => ?_
  obtain ⟨v, c, r, rfl, hg, rfl⟩ := h
  refine ⟨_, (pss_cons (ps_if (pt_cmpR op_eq (pe_ix ix_tup (pv 0) pe_int (fun _ _ => rfl)) pe_str (nomark _)) (pss_one (ps_ret (pe_tup (pa_cons pe_str (pa_cons (pe_ix ix_tup (pv 0) pe_int (fun _ _ => rfl)) (pa_cons (C8.pe_c c_join hr (by omega) rfl (pa_cons (pe_ix ix_tup (pv 0) pe_int (fun _ _ => rfl)) (pa_cons (pv 1) pa_nil))) pa_nil)))))) pss_nil)
  (pss_one (ps_ret (pe_tup (pa_cons pe_str (pa_cons (pv 0) (pa_cons (pv 1) pa_nil))))))), ?_⟩
  cases v <;> (first | (cases hg; done) | skip) <;> cases hg <;> (walk_at "rd")
def RDo : List D → D → Prop := fun l d => ∃ c v r, l = [Ck.d c, Va.d v] ∧ done c v = some r ∧ d = Va.d r
theorem ok_done (T : Tx w K mg) : C8.Cal P w K mg base (LJ FJ + 2) "done" (spD K RDo) [] := by
  have c_wrapped := ok_wrapped (P := P) (base := base) T
  have c_value_ground := ok_value_ground (P := P) (base := base) T
  refine mk_done T fun fd F => ok_data F sc_done (fun l d h => by obtain ⟨v, c, r, rfl, _⟩ := h; rfl) fun cdv A outer s H E l d hr h => ?_
  obtain ⟨c, v, r, rfl, hg, rfl⟩ := h
  refine ⟨_, (pss_cons (ps_while PassesOwn.never (pt_cmpR op_eq (pe_ix ix_tup (pv 0) pe_int (fun _ _ => rfl)) pe_str (nomark _)) (pss_cons (ps_if (pt_cmpR op_ne (C8.pe_c c_value_ground hr (by omega) rfl (pa_cons (pv 1) pa_nil)) (pe_ix ix_tup (pv 0) pe_int (fun _ _ => rfl)) (nomark _)) (pss_one ps_never) pss_nil)
  (pss_one (ps_set (i := 0) sc_done.nd rfl (Or.inl rfl) (pe_ix ix_tup (pv 0) pe_int (fun _ _ => rfl))))))
  (pss_cons (ps_if (pt_cmpR op_eq (pe_ix ix_tup (pv 0) pe_int (fun _ _ => rfl)) pe_str (nomark _)) (pss_one ps_never) pss_nil)
  (pss_cons (ps_if (pt_cmpR op_eq (pe_ix ix_tup (pv 0) pe_int (fun _ _ => rfl)) pe_str (nomark _)) (pss_one (ps_set (i := 0) sc_done.nd rfl (Or.inl rfl) (pe_ix ix_tup (pv 0) pe_int (fun _ _ => rfl)))) pss_nil)
  (pss_cons (ps_if (PW.pt (pw_or (pt_cmpR op_eq (pe_ix ix_tup (pv 0) pe_int (fun _ _ => rfl)) pe_str (nomark _)) (pw_or1 (pt_cmpR op_eq (pe_ix ix_tup (pv 0) pe_int (fun _ _ => rfl)) pe_str (nomark _))))) (pss_one (ps_ret (pv 1))) pss_nil)
  (pss_one (ps_ret (C8.pe_c c_wrapped hr (by omega) rfl (pa_cons (pv 1) (pa_cons (pv 0) pa_nil))))))))), ?_⟩
  refine rd_while (fun m ds => ∃ c, ds = [some (Ck.d c), some (Va.d v)] ∧ done c v = some r ∧ dp c = m) (dp c) ⟨c, rfl, hg, rfl⟩ ?_
  rintro m ds1 ⟨c, rfl, hg, rfl⟩
  have pl : ∀ x : Ck, doneP x v = some r → wrapV v x = some r → RWr [Va.d v, Ck.d x] (Va.d r) := fun x _ h => ⟨v, x, r, rfl, h, rfl⟩
  cases c
  case take g n1 s1 i =>
    have hg' : (if vg v = some g then done i v else none) = some r := hg
    by_cases hv : vg v = some g
    · rw [if_pos hv] at hg'
      have q1 : RVg [Va.d v] (.s (Gd.str g)) := ⟨v, g, rfl, hv, rfl⟩
      refine .inr ⟨by walk_at "eb", dp i, [some (Ck.d i), some (Va.d v)], by simp only [dp]; omega, ⟨i, rfl, hg', rfl⟩, ?_⟩
      refine nd_sn (nd_no (eb_neS (x := g.str) (y := g.str) (by walk_at "ev") (by walk_at "ev") (by rw [decide_eq_true rfl] <;> rfl)) nd_next) ?_
      walk_at "nd"
    · rw [if_neg hv] at hg'
      cases hg'
  case any =>
    cases hg
    exact .inl ⟨by walk_at "eb", by walk_at "rd"⟩
  case same =>
    cases hg
    exact .inl ⟨by walk_at "eb", by walk_at "rd"⟩
  case give g =>
    refine .inl ⟨by walk_at "eb", ?_⟩
    cases g <;> (first | (cases hg; done) | skip)
    case any =>
      cases hg
      walk_at "rd"
    case same =>
      cases hg
      walk_at "rd"
    all_goals
      have q1 := pl _ hg hg
      walk_at "rd"
  all_goals
    have q1 := pl _ hg hg
    exact .inl ⟨by walk_at "eb", by walk_at "rd"⟩
def enl : En → Nat
  | .nil => 0 | .cons _ _ r => enl r + 1
def RLk : List D → D → Prop := fun l d => ∃ en x v, l = [En.d en, .s (Nm.str x)] ∧ look en x = some v ∧ d = Va.d v
theorem ok_looked_up (T : Tx w K mg) : C8.Cal P w K mg base 1 "looked_up" (spD K RLk) [] := by
  refine mk_looked_up T fun fd F => ok_data F sc_looked_up (fun l d h => by obtain ⟨v, c, r, rfl, _⟩ := h; rfl) fun cdv A outer s H E l d hr h => ?_
  obtain ⟨en, x, v, rfl, hg, rfl⟩ := h
  refine ⟨_, (pss_cons (ps_while PassesOwn.never (pt_cmpR op_ne (pe_ix ix_tup (pv 0) pe_int (fun _ _ => rfl)) (pv 1) (nomark _)) (pss_one (ps_set (i := 0) sc_looked_up.nd rfl (Or.inl rfl) (pe_ix ix_tup (pv 0) pe_int (fun _ _ => rfl)))))
  (pss_one (ps_ret (pe_ix ix_tup (pv 0) pe_int (fun _ _ => rfl))))), ?_⟩
  refine rd_while (fun m ds => ∃ en, ds = [some (En.d en), some (.s (Nm.str x))] ∧ look en x = some v ∧ enl en = m) (enl en) ⟨en, rfl, hg, rfl⟩ ?_
  rintro m ds1 ⟨en, rfl, hg, rfl⟩
  cases en with
  | nil => cases hg
  | cons y u r =>
    have hg' : (if y = x then some u else look r x) = some v := hg
    by_cases e : y = x
    · rw [if_pos e] at hg'
      cases hg'
      subst e
      refine .inl ⟨eb_neS (x := y.str) (y := y.str) (by walk_at "ev") (by walk_at "ev") (by rw [decide_eq_true rfl] <;> rfl), by walk_at "rd"⟩
    · rw [if_neg e] at hg'
      refine .inr ⟨eb_neS (x := y.str) (y := x.str) (by walk_at "ev") (by walk_at "ev") (by rw [Nm.inj, decide_eq_false e] <;> rfl), enl r, [some (En.d r), some (.s (Nm.str x))], by simp only [enl]; omega, ⟨r, rfl, hg', rfl⟩, by walk_at "nd"⟩
def ROp : List D → D → Prop := fun l d => ∃ b i j, (b = true ∧ l = [.s "<", .i i, .i j] ∧ d = Va.d (.bool (decide (i < j)))) ∨ (b = false ∧ l = [.s "-", .i i, .i j] ∧ d = Va.d (.int (w32 (i - j))))
theorem ok_operated (T : Tx w K mg) : C8.Cal P w K mg base 1 "operated" (spD K ROp) [] := by
  obtain ⟨tH, hHALF⟩ := T.half
  refine mk_operated T fun fd F => ok_data F sc_operated (fun l d h => by obtain ⟨b, i, j, ⟨_, rfl, _⟩ | ⟨_, rfl, _⟩⟩ := h <;> rfl) fun cdv A outer s H E l d hr h => ?_
  obtain ⟨b, i, j, h⟩ := h
  refine ⟨_, (pss_cons (ps_if (pt_cmpR op_eq (pv 0) pe_str (nomark _)) (pss_one (ps_ret (pe_tup (pa_cons pe_str (pa_cons (pe_cmpR op_lt (pv 1) (pv 2) (nomark _)) pa_nil))))) pss_nil)
  (pss_cons (ps_if (pt_cmpR op_eq (pv 0) pe_str (nomark _)) (pss_one (ps_ret (pe_tup (pa_cons pe_str (pa_cons (pe_cmpR op_eq (pv 1) (pv 2) (nomark _)) pa_nil))))) pss_nil)
  (pss_cons (ps_if (pt_cmpR op_eq (pv 0) pe_str (nomark _)) (pss_one (ps_set (i := 3) sc_operated.nd rfl (Or.inl rfl) (pe_op op_add (pv 1) (pv 2)))) (pss_one (ps_if (pt_cmpR op_eq (pv 0) pe_str (nomark _)) (pss_one (ps_set (i := 3) sc_operated.nd rfl (Or.inl rfl) (pe_op op_sub (pv 1) (pv 2)))) (pss_one (ps_set (i := 3) sc_operated.nd rfl (Or.inl rfl) (pe_op op_mul (pv 1) (pv 2)))))))
  (pss_one (ps_ret (pe_tup (pa_cons pe_str (pa_cons (pe_op op_sub (pe_op op_mod (pe_callTy call_int1 (by rfl) (fr_int T) (by decide +kernel) (pa_cons (pe_op op_add (pv 3) (pe_glob (v := .int 2147483648) rfl hHALF ⟨_, rfl⟩)) pa_nil)) (pe_op op_mul pe_int (pe_glob (v := .int 2147483648) rfl hHALF ⟨_, rfl⟩))) (pe_glob (v := .int 2147483648) rfl hHALF ⟨_, rfl⟩)) pa_nil)))))))), ?_⟩
  rcases h with ⟨_, rfl, rfl⟩ | ⟨_, rfl, rfl⟩
  · walk_at "rd"
  · refine rd_skip (by walk_at "eb") (rd_skip (by walk_at "eb") (rd_sn (ds' := [some (.s "-"), some (.i i), some (.i j), some (.i (i - j))]) (nd_no (by walk_at "eb") (nd_yes (by walk_at "eb") (nd_asg (by walk_at "ev")))) (rd_ret (ed_tup (es_cons ed_s (es_cons (ed_sub (ed_mod (ed_int1 (ed_add (by walk_at "ev") ed_i)) (ed_mul ed_i ed_i ?_) ?_) ed_i) es_nil)) ?_))))
    · exact .inl ⟨by decide, by decide⟩
    · decide
    · exact Nat.le_of_ble_eq_true rfl
/-- the shape of a value -/
def sh0 : Va → D
  | .int i => Va.d (.int i) | .bool b => Va.d (.bool b) | v => .t [.s v.k]
def shV : Va → D
  | .wr v _ => sh0 v | v => sh0 v
def RSh : List D → D → Prop := fun l d => ∃ v, l = [Va.d v] ∧ d = shV v
theorem ok_shape (T : Tx w K mg) : C8.Cal P w K mg base 1 "shape" (spD K RSh) [] := by
  refine mk_shape T fun fd F => ok_data F sc_shape (fun l d h => by obtain ⟨v, rfl, _⟩ := h; rfl) fun cdv A outer s H E l d hr h => ?_
  obtain ⟨v, rfl, rfl⟩ := h
  refine ⟨_, (pss_cons (ps_if (pt_cmpR op_eq (pe_ix ix_tup (pv 0) pe_int (fun _ _ => rfl)) pe_str (nomark _)) (pss_one (ps_set (i := 0) sc_shape.nd rfl (Or.inl rfl) (pe_ix ix_tup (pv 0) pe_int (fun _ _ => rfl)))) pss_nil)
  (pss_cons (ps_if (PW.pt (pw_or (pt_cmpR op_eq (pe_ix ix_tup (pv 0) pe_int (fun _ _ => rfl)) pe_str (nomark _)) (pw_or1 (pt_cmpR op_eq (pe_ix ix_tup (pv 0) pe_int (fun _ _ => rfl)) pe_str (nomark _))))) (pss_one (ps_ret (pv 0))) pss_nil)
  (pss_one (ps_ret (pe_tup (pa_cons (pe_ix ix_tup (pv 0) pe_int (fun _ _ => rfl)) pa_nil)))))), ?_⟩
  cases v
  case wr v c => cases v <;> (walk_at "rd")
  all_goals (walk_at "rd")
end
end Hn
end

/- HnW6 -/
section
set_option Elab.async false
set_option linter.all false
set_option maxRecDepth 100000
set_option maxHeartbeats 4000000
/-! Halfnoted: the machine in the heap, a calculus of readings over it. -/
namespace Hn
open PySem PySem.Spec PyProof.Rows L2 Evl
def mf (c : Int) (pl sl : Addr) (w p z : Int) (ml : Addr) : List (Str × V) := [("calls", .int c), ("prints", .ref pl), ("stack", .ref sl), ("waiting", .int w), ("pending", .int p), ("cells", .int z), ("most", .ref ml)]
/-- the machine's whole numbers -/
inductive IFd | wt | pd | cl | ca
def IFd.str : IFd → Str
  | .wt => "waiting" | .pd => "pending" | .cl => "cells" | .ca => "calls"
def IFd.get : IFd → MS → Int
  | .wt, s => s.wt | .pd, s => s.pd | .cl, s => s.cl | .ca, s => s.calls
def IFd.set : IFd → MS → Int → MS
  | .wt, s, x => { s with wt := x } | .pd, s, x => { s with pd := x } | .cl, s, x => { s with cl := x } | .ca, s, x => { s with calls := x }
abbrev mfs (st : MS) (pl sl ml : Addr) : List (Str × V) := mf st.calls pl sl st.wt st.pd st.cl ml
theorem mf_look (f : IFd) (st : MS) (pl sl ml : Addr) : (mfs st pl sl ml).lookup f.str = some (.int (f.get st)) := by
  cases f <;> kernel_rfl
theorem mf_put (f : IFd) (st : MS) (pl sl ml : Addr) (x : Int) : putF f.str (.int x) (mfs st pl sl ml) = mfs (f.set st x) pl sl ml := by
  cases f <;> kernel_rfl
theorem mf_prints (st : MS) (pl sl ml : Addr) : (mfs st pl sl ml).lookup ("prints" : Str) = some (V.ref pl) := by kernel_rfl
theorem mf_stack (st : MS) (pl sl ml : Addr) : (mfs st pl sl ml).lookup ("stack" : Str) = some (V.ref sl) := by kernel_rfl
theorem mf_most (st : MS) (pl sl ml : Addr) : (mfs st pl sl ml).lookup ("most" : Str) = some (V.ref ml) := by kernel_rfl
theorem mf_putmost (st : MS) (pl sl ml q : Addr) : putF "most" (.ref q) (mfs st pl sl ml) = mfs st pl sl q := by kernel_rfl
abbrev CM (K : PySem.W.Frag) : Addr := He.ga K "Machine"
abbrev CC (K : PySem.W.Frag) : Addr := He.ga K "Cell"
/-- the machine at m: its dict, its lists -/
structure MA (K : PySem.W.Frag) (H0 : Hp) (m dx pl sl ml : Addr) (st : MS) (H : Hp) : Prop where
  ob : H m = some (.ins (CM K) dx (mfs st pl sl ml))
  pr : H pl = some (.lst [])
  sk : ∃ xs, H sl = some (.lst xs) ∧ Reps K H (st.stk.reverse.map Fr.d) xs
  mo : H ml = some (.lst [.int st.m0, .int st.m1, .int st.m2])
  d1 : sl ≠ pl
  d2 : sl ≠ ml
  ex : Ex H0 H
  n1 : H0 m = none
  n2 : H0 sl = none
  ce : ∀ a v, st.sto a = some v → H0 a = none ∧ ∃ dc x, H a = some (.ins (CC K) dc [(("content" : Str), x)]) ∧ Rep K H (Va.d v) x
/-- the machine at m represents st; H0 is a part of the heap that the machine leaves alone -/
def MW (K : PySem.W.Frag) (H0 : Hp) (m : Addr) (st : MS) (H : Hp) : Prop := ∃ dx pl sl ml, MA K H0 m dx pl sl ml st H
section
variable {K : PySem.W.Frag} {H0 H H' : Hp} {m dx pl sl ml : Addr} {st : MS}
theorem MA.grow (A : MA K H0 m dx pl sl ml st H) (e : Ex H H') : MA K H0 m dx pl sl ml st H' := by
  obtain ⟨xs, s1, s2⟩ := A.sk
  refine ⟨e _ _ A.ob, e _ _ A.pr, ⟨xs, e _ _ s1, s2.mono (Tm.ex e)⟩, e _ _ A.mo, A.d1, A.d2, A.ex.trans e, A.n1, A.n2, fun a v h => ?_⟩
  obtain ⟨h1, dc, x, h2, h3⟩ := A.ce a v h
  exact ⟨h1, dc, x, e _ _ h2, h3.ex e⟩
theorem MW.grow (A : MW K H0 m st H) (e : Ex H H') : MW K H0 m st H' := by
  obtain ⟨dx, pl, sl, ml, A⟩ := A
  exact ⟨dx, pl, sl, ml, A.grow e⟩
theorem ex_upd {H0 H : Hp} {a : Addr} {o : HO} (e : Ex H0 H) (n : H0 a = none) : Ex H0 (upd H a o) := Ex.mut e n
theorem cell_ne {a dc : Addr} {x : V} (A : MA K H0 m dx pl sl ml st H) (h : H a = some (.ins (CC K) dc [(("content" : Str), x)])) : a ≠ m := ne_of h A.ob fun z => by
  injection z with _ _ h1
  injection h1 with _ h2
  cases h2
theorem cell_ne_l {a b dc : Addr} {x : V} {xs : List V} (h : H a = some (.ins (CC K) dc [(("content" : Str), x)])) (h2 : H b = some (.lst xs)) : a ≠ b := ne_of h h2 fun z => by cases z
theorem mach_ne_l {b : Addr} {xs : List V} (A : MA K H0 m dx pl sl ml st H) (h2 : H b = some (.lst xs)) : b ≠ m := ne_of h2 A.ob fun z => by cases z
theorem MA.set (A : MA K H0 m dx pl sl ml st H) (f : IFd) (x : Int) : MA K H0 m dx pl sl ml (f.set st x) (upd H m (.ins (CM K) dx (putF f.str (.int x) (mfs st pl sl ml)))) := by
  obtain ⟨xs, s1, s2⟩ := A.sk
  have tm : Tm K H (upd H m (.ins (CM K) dx (putF f.str (.int x) (mfs st pl sl ml)))) := tm_ins A.ob
  have e1 : (f.set st x).stk = st.stk := by cases f <;> rfl
  have e2 : (f.set st x).m0 = st.m0 ∧ (f.set st x).m1 = st.m1 ∧ (f.set st x).m2 = st.m2 := by cases f <;> exact ⟨rfl, rfl, rfl⟩
  have e3 : (f.set st x).sto = st.sto := by cases f <;> rfl
  refine ⟨by rw [upd_same, mf_put], by rw [upd_ne (mach_ne_l A A.pr)]; exact A.pr, ⟨xs, by rw [upd_ne (mach_ne_l A s1)]; exact s1, by rw [e1]; exact s2.mono tm⟩, ?_, A.d1, A.d2, ex_upd A.ex A.n1, A.n1, A.n2, fun a v h => ?_⟩
  · rw [upd_ne (mach_ne_l A A.mo), e2.1, e2.2.1, e2.2.2]; exact A.mo
  · rw [e3] at h
    obtain ⟨h1, dc, y, h2, h3⟩ := A.ce a v h
    exact ⟨h1, dc, y, by rw [upd_ne (cell_ne A h2)]; exact h2, h3.mono tm⟩
theorem MA.restk (A : MA K H0 m dx pl sl ml st H) {xs : List V} {r : List Fr} (hr : Reps K H (r.reverse.map Fr.d) xs) : MA K H0 m dx pl sl ml { st with stk := r } (upd H sl (.lst xs)) := by
  obtain ⟨ys, s1, s2⟩ := A.sk
  have tm : Tm K H (upd H sl (.lst xs)) := tm_lst s1
  refine ⟨by rw [upd_ne (mach_ne_l A s1).symm]; exact A.ob, by rw [upd_ne A.d1.symm]; exact A.pr, ⟨xs, upd_same, hr.mono tm⟩, by rw [upd_ne A.d2.symm]; exact A.mo, A.d1, A.d2, ex_upd A.ex A.n2, A.n1, A.n2, fun a v h => ?_⟩
  obtain ⟨h1, dc, y, h2, h3⟩ := A.ce a v h
  exact ⟨h1, dc, y, by rw [upd_ne (cell_ne_l h2 s1)]; exact h2, h3.mono tm⟩
end
/-! ### the calculus -/
/-- what is known of the heap in a state stays when the heap grows -/
class Gr {S : Type} (Wd : S → Hp → Prop) : Prop where
  g : ∀ {s : S} {H H' : Hp}, Ex H H' → Wd s H → Wd s H'
section
variable (K : PySem.W.Frag) {S : Type} (Wd : S → Hp → Prop)
def GE (te : TE) (ds : Lo) (st : S) (P : D → S → Prop) : Prop := ∀ σ H, LoOk K H σ ds → Wd st H → ∀ Q : VK, (∀ v H' d st', P d st' → Tm K H H' → Wd st' H' → Rep K H' d v → Q v H') → te σ H Q
def GEs (ta : TA) (ds : Lo) (st : S) (l : List D) (st' : S) : Prop := ∀ σ H, LoOk K H σ ds → Wd st H → ∀ Q : List V → Hp → Prop, (∀ vs H', Tm K H H' → Wd st' H' → Reps K H' l vs → Q vs H') → ta σ H Q
def GB (tt : TT) (ds : Lo) (st : S) (b : Bool) (st' : S) : Prop := ∀ σ H, LoOk K H σ ds → Wd st H → ∀ Q : Bool → Hp → Prop, (∀ H', Tm K H H' → Wd st' H' → Q b H') → tt σ H Q
/-- t goes on -/
def GN (t : TS) (ds : Lo) (st : S) (ds' : Lo) (st' : S) : Prop := ∀ (D : L2.Ends) σ H, LoOk K H σ ds → Wd st H → (∀ σ' H', Tm K H H' → Wd st' H' → LoOk K H' σ' ds' → D.nx σ' H') → t D σ H
/-- t returns -/
def GR (t : TS) (ds : Lo) (st : S) (P : D → S → Prop) : Prop := ∀ (D : L2.Ends) σ H, LoOk K H σ ds → Wd st H → (∀ v H' d st', P d st' → Tm K H H' → Wd st' H' → Rep K H' d v → D.rt v H') → t D σ H
end
abbrev EM (K : PySem.W.Frag) (H0 : Hp) (m : Addr) : TE → Lo → MS → (D → MS → Prop) → Prop := GE K (MW K H0 m)
abbrev EMs (K : PySem.W.Frag) (H0 : Hp) (m : Addr) : TA → Lo → MS → List D → MS → Prop := GEs K (MW K H0 m)
abbrev BM (K : PySem.W.Frag) (H0 : Hp) (m : Addr) : TT → Lo → MS → Bool → MS → Prop := GB K (MW K H0 m)
abbrev NM (K : PySem.W.Frag) (H0 : Hp) (m : Addr) : TS → Lo → MS → Lo → MS → Prop := GN K (MW K H0 m)
abbrev RR (K : PySem.W.Frag) (H0 : Hp) (m : Addr) : TS → Lo → MS → (D → MS → Prop) → Prop := GR K (MW K H0 m)
instance {K : PySem.W.Frag} {H0 : Hp} {m : Addr} : Gr (MW K H0 m) := ⟨fun e W => W.grow e⟩
/-- exactly d and st -/
abbrev Is {S : Type} (d : D) (st : S) : D → S → Prop := fun d' st' => d' = d ∧ st' = st
/-- a method's promise -/
def spM (K : PySem.W.Frag) (R : MS → List D → (D → MS → Prop) → Prop) : Sp := fun vs H Q _ => ∃ H0 m st l P vs', vs = .ref m :: vs' ∧ Reps K H l vs' ∧ MW K H0 m st H ∧ R st l P ∧
  ∀ v H' d st', P d st' → Tm K H H' → MW K H0 m st' H' → Rep K H' d v → Q v H'
section
variable {K : PySem.W.Frag} {S : Type} {Wd : S → Hp → Prop} [Gr Wd] {te ta : TE} {tt tu : TT} {t u w : TS} {as ar : TA} {ds ds' ds2 : Lo} {st st1 st2 : S} {P : D → S → Prop} {d e : D} {l : List D} {b c : Bool} {i j : Nat}
theorem em_ed (h : ED K te ds d) : GE K Wd te ds st (Is d st) := fun σ H L W Q q => h σ H L Q fun v H' e r => q v H' d st ⟨rfl, rfl⟩ (Tm.ex e) (Gr.g e W) r
theorem ems_ed (h : EDs K as ds l) : GEs K Wd as ds st l st := fun σ H L W Q q => h σ H L Q fun vs H' e r => q vs H' (Tm.ex e) (Gr.g e W) r
theorem bm_eb (h : EB K tt ds b) : GB K Wd tt ds st b st := fun σ H L W Q q => h σ H L Q fun H' e => q H' (Tm.ex e) (Gr.g e W)
theorem nm_nd (h : ND K t ds ds') : GN K Wd t ds st ds' st := fun D σ H L W q => h D σ H L fun σ' H' e L' => q σ' H' (Tm.ex e) (Gr.g e W) L'
theorem rr_rd (h : RD K t ds d) : GR K Wd t ds st (Is d st) := fun D σ H L W q => h D σ H L fun v H' e r => q v H' d st ⟨rfl, rfl⟩ (Tm.ex e) (Gr.g e W) r
theorem ems_nil : GEs K Wd tNil ds st [] st := ems_ed es_nil
theorem ems_cons (h : GE K Wd te ds st (Is d st1)) (hr : GEs K Wd as ds st1 l st2) : GEs K Wd (tCons te as) ds st (d :: l) st2 := fun σ H L W Q q =>
  h σ H L W _ fun v H' d' st' p tm W' r => by
    obtain ⟨rfl, rfl⟩ := p
    exact hr σ H' (L.mono tm) W' _ fun vs H2 tm2 W2 r2 => q (v :: vs) H2 (tm.trans tm2) W2 (.cons (r.mono tm2) r2)
theorem em_tup (h : GEs K Wd as ds st l st1) (hl : l.length ≤ 1000) : GE K Wd (tTup as) ds st (Is (.t l) st1) := fun σ H L W Q q =>
  h σ H L W _ fun vs H' tm W' r => ⟨by rw [r.len]; exact Nat.le_of_lt (small1000 hl), fun p hp =>
    q _ _ _ _ ⟨rfl, rfl⟩ (tm.trans (tm_new hp)) (Gr.g (Ex.new hp) W') (rep_tup upd_same (r.mono (tm_new hp)))⟩
theorem em_ix {n : Int} (h : GE K Wd te ds st (Is (.t l) st1)) (hi : l[j]? = some d) (hn : n = (j : Int) := by rfl) : GE K Wd (tOp (rIxT K) te (tC (.int n))) ds st (Is d st1) := fun σ H L W Q q =>
  h σ H L W _ fun v H' d' st' p tm W' r => by
    obtain ⟨rfl, rfl⟩ := p
    obtain ⟨a, xs, rfl, hs, hr⟩ := r
    obtain ⟨y, h1, h2⟩ := hr.get hi
    subst hn
    exact ⟨a, xs, j, y, rfl, rfl, hs, atI_nat h1, q y H' d st' ⟨rfl, rfl⟩ tm W' h2⟩
theorem em_call {R : List D → D → Prop} {E : XK} (h : GEs K Wd as ds st l st1) (hr : R l d) : GE K Wd (tCall (spD K R) [] E as) ds st (Is d st1) := fun σ H L W Q q =>
  h σ H L W _ fun vs H' tm W' r => ⟨l, d, by rw [List.append_nil]; exact r, hr, fun v H2 e2 r2 => q v H2 d st1 ⟨rfl, rfl⟩ (tm.trans (Tm.ex e2)) (Gr.g e2 W') r2⟩
theorem rr_ret (h : GE K Wd te ds st P) : GR K Wd (tRet te) ds st P := fun D σ H L W q => h σ H L W _ q
theorem nm_next : GN K Wd tNext ds st ds st := fun _ σ H L W q => q σ H Tm.refl W L
theorem nm_asg (h : GE K Wd te ds st (Is d st1)) : GN K Wd (tAsg te (gName i)) ds st (ds.set i (some d)) st1 := fun D σ H L W q => h σ H L W _ fun v H' d' st' p tm W' r => by
  obtain ⟨rfl, rfl⟩ := p
  exact q _ H' tm W' ((L.mono tm).set r i)
theorem nm_drop (h : GE K Wd te ds st (Is d st1)) : GN K Wd (tDrop te) ds st ds st1 := fun D σ H L W q => h σ H L W _ fun v H' d' st' p tm W' r => by
  obtain ⟨rfl, rfl⟩ := p
  exact q _ H' tm W' (L.mono tm)
theorem nm_sn (h : GN K Wd t ds st ds' st1) (hu : GN K Wd u ds' st1 ds2 st2) : GN K Wd (tSeq t u) ds st ds2 st2 := fun D σ H L W q => h { D with nx := u D } σ H L W fun σ' H' tm W' L' => hu D σ' H' L' W' fun σ2 H2 tm2 W2 L2 => q σ2 H2 (tm.trans tm2) W2 L2
theorem rr_sn (h : GN K Wd t ds st ds' st1) (hu : GR K Wd u ds' st1 P) : GR K Wd (tSeq t u) ds st P := fun D σ H L W q => h { D with nx := u D } σ H L W fun σ' H' tm W' L' => hu D σ' H' L' W' fun v H2 d st' p tm2 W2 r => q v H2 d st' p (tm.trans tm2) W2 r
theorem rr_sr (h : GR K Wd t ds st P) : GR K Wd (tSeq t u) ds st P := fun D σ H L W q => h { D with nx := u D } σ H L W q
theorem rr_if (h : GB K Wd tt ds st b st1) (h1 : b = true → GR K Wd t ds st1 P) (h2 : b = false → GR K Wd u ds st1 P) : GR K Wd (tIfS tt t u) ds st P := fun D σ H L W q => h σ H L W _ fun H' tm W' => by
  cases b with
  | true => exact iteT (h1 rfl D σ H' (L.mono tm) W' fun v H2 d st' p tm2 W2 r => q v H2 d st' p (tm.trans tm2) W2 r)
  | false => exact iteF (h2 rfl D σ H' (L.mono tm) W' fun v H2 d st' p tm2 W2 r => q v H2 d st' p (tm.trans tm2) W2 r)
theorem nm_if (h : GB K Wd tt ds st b st1) (h1 : b = true → GN K Wd t ds st1 ds' st2) (h2 : b = false → GN K Wd u ds st1 ds' st2) : GN K Wd (tIfS tt t u) ds st ds' st2 := fun D σ H L W q => h σ H L W _ fun H' tm W' => by
  cases b with
  | true => exact iteT (h1 rfl D σ H' (L.mono tm) W' fun v H2 tm2 W2 r => q v H2 (tm.trans tm2) W2 r)
  | false => exact iteF (h2 rfl D σ H' (L.mono tm) W' fun v H2 tm2 W2 r => q v H2 (tm.trans tm2) W2 r)
theorem rr_yes (h : GB K Wd tt ds st true st1) (h1 : GR K Wd t ds st1 P) : GR K Wd (tIfS tt t u) ds st P := rr_if h (fun _ => h1) fun z => nomatch z
theorem rr_no (h : GB K Wd tt ds st false st1) (h1 : GR K Wd u ds st1 P) : GR K Wd (tIfS tt t u) ds st P := rr_if h (fun z => nomatch z) fun _ => h1
theorem nm_yes (h : GB K Wd tt ds st true st1) (h1 : GN K Wd t ds st1 ds' st2) : GN K Wd (tIfS tt t u) ds st ds' st2 := nm_if h (fun _ => h1) fun z => nomatch z
theorem nm_no (h : GB K Wd tt ds st false st1) (h1 : GN K Wd u ds st1 ds' st2) : GN K Wd (tIfS tt t u) ds st ds' st2 := nm_if h (fun z => nomatch z) fun _ => h1
theorem rr_skip (h : GB K Wd tt ds st false st1) (hu : GR K Wd u ds st1 P) : GR K Wd (tSeq (tIfS tt t tNext) u) ds st P := rr_sn (nm_no h nm_next) hu
theorem rr_take (h : GB K Wd tt ds st true st1) (h1 : GR K Wd t ds st1 P) : GR K Wd (tSeq (tIfS tt t w) u) ds st P := rr_sr (rr_yes h h1)
theorem bm_and {st3 : S} (h1 : GB K Wd tt ds st true st1) (h2 : GB K Wd tu ds st1 c st3) : GB K Wd (tAnd tt tu) ds st c st3 := fun σ H L W Q q => h1 σ H L W _ fun H' tm W' => iteT (h2 σ H' (L.mono tm) W' Q fun H2 tm2 W2 => q H2 (tm.trans tm2) W2)
theorem bm_and0 (h1 : GB K Wd tt ds st false st1) : GB K Wd (tAnd tt tu) ds st false st1 := fun σ H L W Q q => h1 σ H L W _ fun H' tm W' => iteF (q H' tm W')
theorem bm_not (h : GB K Wd tt ds st b st1) (hc : (!b) = c) : GB K Wd (tNot tt) ds st c st1 := fun σ H L W Q q => h σ H L W _ fun H' tm W' => by rw [hc]; exact q H' tm W'
theorem bm_eqS {x y : Str} (h1 : GE K Wd te ds st (Is (.s x) st1)) (hb : decide (x = y) = b) : GB K Wd (tTest (tOp rEq te (tC (.str y)))) ds st b st1 := fun σ H L W Q q =>
  h1 σ H L W _ fun v H' d' st' p tm W' r => by
    obtain ⟨rfl, rfl⟩ := p
    cases r
    refine ⟨rfl, _, rfl, ?_⟩
    have e3 : decide (V.str x = V.str y) = b := by
      rw [← hb]
      by_cases z : x = y
      · subst z
        rw [decide_eq_true rfl, decide_eq_true rfl]
      · rw [decide_eq_false z, decide_eq_false fun k => z (V.str.inj k)]
    rw [e3]
    exact q H' tm W'
theorem bm_eqI {x y : Int} (h1 : GE K Wd te ds st (Is (.i x) st1)) (hb : decide (x = y) = b) : GB K Wd (tTest (tOp rEq te (tC (.int y)))) ds st b st1 := fun σ H L W Q q =>
  h1 σ H L W _ fun v H' d' st' p tm W' r => by
    obtain ⟨rfl, rfl⟩ := p
    cases r
    refine ⟨rfl, _, rfl, ?_⟩
    have e3 : decide (V.int x = V.int y) = b := by
      rw [← hb]
      by_cases z : x = y
      · subst z
        rw [decide_eq_true rfl, decide_eq_true rfl]
      · rw [decide_eq_false z, decide_eq_false fun k => z (V.int.inj k)]
    rw [e3]
    exact q H' tm W'
end
section
variable {K : PySem.W.Frag} {H0 : Hp} {m : Addr} {te ta : TE} {tt tu : TT} {t u w : TS} {as ar : TA} {ds ds' ds2 : Lo} {st st1 st2 : MS} {P : D → MS → Prop} {d e : D} {l : List D} {b c : Bool} {i j : Nat}
/-! ### the machine's fields -/
theorem slf {σ : L2.St} {H : Hp} (L : LoOk K H σ ds) (hi : ds[i]? = some (some (.r m))) : σ[i]? = some (some (.ref m)) := by
  obtain ⟨v, h1, h2⟩ := L.get hi
  have h2' : v = .ref m := h2
  rw [h1, h2']
theorem em_fld {w0 : World} {mg : Str → Option Value} (T : Tx w0 K mg) (f : IFd) (hi : ds[i]? = some (some (.r m))) : EM K H0 m (tFld K (tVar i) f.str) ds st (Is (.i (f.get st)) st) := fun σ H L W Q q => by
  obtain ⟨dx, pl, sl, ml, A⟩ := id W
  refine ⟨_, slf L hi, m, _, dx, _, _, rfl, A.ob, cl_Machine T, ?_, mf_look f st pl sl ml, q _ H _ _ ⟨rfl, rfl⟩ Tm.refl W rfl⟩
  cases f
  · exact na_Machine_waiting T
  · exact na_Machine_pending T
  · exact na_Machine_cells T
  · exact na_Machine_calls T
theorem nm_add {w0 : World} {mg : Str → Option Value} (T : Tx w0 K mg) (f : IFd) {k : Int} (hi : ds[i]? = some (some (.r m))) (h : ED K te ds (.i k)) : NM K H0 m (sFldAug K (tVar i) te rAdd f.str) ds st ds (f.set st (f.get st + k)) := fun D σ H L W q => by
  obtain ⟨dx, pl, sl, ml, A⟩ := id W
  refine ⟨_, slf L hi, m, _, dx, _, _, rfl, A.ob, cl_Machine T, ?_, mf_look f st pl sl ml, h σ H L _ fun v H2 e2 r => ?_⟩
  · cases f
    · exact na_Machine_waiting T
    · exact na_Machine_pending T
    · exact na_Machine_cells T
    · exact na_Machine_calls T
  · cases r
    refine ⟨_, k, rfl, rfl, dx, _, e2 _ _ A.ob, (by show 7 < 1000; decide), ?_⟩
    have tm : Tm K H2 (upd H2 m (.ins (CM K) dx (putF f.str (.int (f.get st + k)) (mfs st pl sl ml)))) := tm_ins (e2 _ _ A.ob)
    exact q _ _ ((Tm.ex e2).trans tm) ⟨_, _, _, _, (A.grow e2).set f _⟩ ((L.mono (Tm.ex e2)).mono tm)
theorem nm_sub {w0 : World} {mg : Str → Option Value} (T : Tx w0 K mg) (f : IFd) {k : Int} (hi : ds[i]? = some (some (.r m))) (h : ED K te ds (.i k)) : NM K H0 m (sFldAug K (tVar i) te rSub f.str) ds st ds (f.set st (f.get st - k)) := fun D σ H L W q => by
  obtain ⟨dx, pl, sl, ml, A⟩ := id W
  refine ⟨_, slf L hi, m, _, dx, _, _, rfl, A.ob, cl_Machine T, ?_, mf_look f st pl sl ml, h σ H L _ fun v H2 e2 r => ?_⟩
  · cases f
    · exact na_Machine_waiting T
    · exact na_Machine_pending T
    · exact na_Machine_cells T
    · exact na_Machine_calls T
  · cases r
    refine ⟨_, k, rfl, rfl, dx, _, e2 _ _ A.ob, (by show 7 < 1000; decide), ?_⟩
    have tm : Tm K H2 (upd H2 m (.ins (CM K) dx (putF f.str (.int (f.get st - k)) (mfs st pl sl ml)))) := tm_ins (e2 _ _ A.ob)
    exact q _ _ ((Tm.ex e2).trans tm) ⟨_, _, _, _, (A.grow e2).set f _⟩ ((L.mono (Tm.ex e2)).mono tm)
theorem nm_push {w0 : World} {mg : Str → Option Value} (T : Tx w0 K mg) {fr : Fr} (hi : ds[i]? = some (some (.r m))) (h : ED K te ds fr.d) (hz : st.stk.length ≤ 1000) :
    NM K H0 m (tDrop (tBM K "list" rAppend (tFld K (tVar i) "stack") (tCons te tNil))) ds st ds { st with stk := fr :: st.stk } := fun D σ H L W q => by
  obtain ⟨dx, pl, sl, ml, A⟩ := id W
  obtain ⟨xs, s1, s2⟩ := A.sk
  refine ⟨_, slf L hi, m, _, dx, _, _, rfl, A.ob, cl_Machine T, na_Machine_stack T, mf_stack st pl sl ml, .inl ⟨rfl, _, SqL.of s1⟩, h σ H L _ fun v H2 e2 r => ?_⟩
  have s1' := e2 _ _ s1
  refine ⟨sl, xs, v, rfl, rfl, s1', by rw [s2.len, List.length_map, List.length_reverse]; exact small1000 hz, ?_⟩
  have tm : Tm K H2 (upd H2 sl (.lst (xs ++ [v]))) := tm_lst s1'
  refine q _ _ ((Tm.ex e2).trans tm) ⟨_, _, _, _, (A.grow e2).restk (r := fr :: st.stk) ?_⟩ ((L.mono (Tm.ex e2)).mono tm)
  rw [List.reverse_cons, List.map_append]
  exact (s2.mono (Tm.ex e2)).app (.cons r .nil)
theorem em_pop {w0 : World} {mg : Str → Option Value} (T : Tx w0 K mg) {fr : Fr} {rest : List Fr} (hi : ds[i]? = some (some (.r m))) (hs : st.stk = fr :: rest) :
    EM K H0 m (tBM0 K "list" rPop (tFld K (tVar i) "stack")) ds st (Is fr.d { st with stk := rest }) := fun σ H L W Q q => by
  obtain ⟨dx, pl, sl, ml, A⟩ := id W
  obtain ⟨xs, s1, s2⟩ := A.sk
  rw [hs, List.reverse_cons, List.map_append] at s2
  have hl := s2.len
  rw [List.length_append, List.length_map, List.length_reverse] at hl
  have hl' : xs.length = rest.length + 1 := hl
  obtain ⟨y, hy, ry⟩ := s2.get (j := rest.length) (d := fr.d) (by rw [List.getElem?_append_right (by rw [List.length_map, List.length_reverse]; exact Nat.le_refl _), List.length_map, List.length_reverse, Nat.sub_self] <;> rfl)
  refine ⟨_, slf L hi, m, _, dx, _, _, rfl, A.ob, cl_Machine T, na_Machine_stack T, mf_stack st pl sl ml, .inl ⟨rfl, _, SqL.of s1⟩, sl, xs, y, rfl, rfl, s1, by rw [hl', Nat.add_sub_cancel]; exact hy, ?_⟩
  have tm : Tm K H (upd H sl (.lst xs.dropLast)) := tm_lst s1
  refine q y _ _ _ ⟨rfl, rfl⟩ tm ⟨_, _, _, _, A.restk (r := rest) ?_⟩ (ry.mono tm)
  have e1 : xs.dropLast = xs.take rest.length := by rw [List.dropLast_eq_take, hl', Nat.add_sub_cancel]
  rw [e1]
  have tk : ∀ {l1 l2 : List D} {ys : List V}, Reps K H (l1 ++ l2) ys → Reps K H l1 (ys.take l1.length) := fun {l1} => by
    induction l1 with
    | nil => intro l2 ys _; rfl
    | cons a l1 ih =>
      intro l2 ys h
      obtain ⟨x, r, rfl, h1, h2⟩ := h
      exact ⟨x, _, rfl, h1, ih h2⟩
  have := tk s2
  rw [List.length_map, List.length_reverse] at this
  exact this
theorem em_top {w0 : World} {mg : Str → Option Value} (T : Tx w0 K mg) {fr : Fr} {rest : List Fr} (hi : ds[i]? = some (some (.r m))) (hs : st.stk = fr :: rest) :
    EM K H0 m (tOp (rIxL K) (tFld K (tVar i) "stack") (tUn (rU fun i => .int (-i)) (tC (.int 1)))) ds st (Is fr.d st) := fun σ H L W Q q => by
  obtain ⟨dx, pl, sl, ml, A⟩ := id W
  obtain ⟨xs, s1, s2⟩ := A.sk
  rw [hs, List.reverse_cons, List.map_append] at s2
  have hl := s2.len
  rw [List.length_append, List.length_map, List.length_reverse] at hl
  have hl' : xs.length = rest.length + 1 := hl
  obtain ⟨y, hy, ry⟩ := s2.get (j := rest.length) (d := fr.d) (by rw [List.getElem?_append_right (by rw [List.length_map, List.length_reverse]; exact Nat.le_refl _), List.length_map, List.length_reverse, Nat.sub_self] <;> rfl)
  refine ⟨_, slf L hi, m, _, dx, _, _, rfl, A.ob, cl_Machine T, na_Machine_stack T, mf_stack st pl sl ml, 1, rfl, sl, xs, -1, y, rfl, rfl, SqL.of s1, ?_, q y H _ _ ⟨rfl, rfl⟩ Tm.refl W ry⟩
  unfold atI ixN
  rw [if_neg (by decide), if_pos (by omega)]
  have : (-1 + (xs.length : Int)).toNat = rest.length := by omega
  rw [this]
  exact hy
theorem bm_stack {w0 : World} {mg : Str → Option Value} (T : Tx w0 K mg) (hi : ds[i]? = some (some (.r m))) (hb : (!st.stk.isEmpty) = b) :
    BM K H0 m (fun σ H Q => tFld K (tVar i) "stack" σ H fun x H' => ∃ k, TruV K x H' k ∧ Q k H') ds st b st := fun σ H L W Q q => by
  obtain ⟨dx, pl, sl, ml, A⟩ := id W
  obtain ⟨xs, s1, s2⟩ := A.sk
  refine ⟨_, slf L hi, m, _, dx, _, _, rfl, A.ob, cl_Machine T, na_Machine_stack T, mf_stack st pl sl ml, b, .inl ⟨xs, SqL.of s1, ?_⟩, q H Tm.refl W⟩
  rw [← hb]
  have hl := s2.len
  rw [List.length_map, List.length_reverse] at hl
  cases h : st.stk with
  | nil => rw [h] at hl; rw [List.eq_nil_of_length_eq_zero hl] <;> rfl
  | cons a r =>
    rw [h] at hl
    cases xs with
    | nil => cases hl
    | cons x y => rfl
/-- self.name(..) -/
theorem em_meth {R : MS → List D → (D → MS → Prop) → Prop} {E : XK} {name : Str} (hi : ds[i]? = some (some (.r m))) (h : EMs K H0 m as ds st l st1) (hr : R st1 l P) (hm : ∀ st pl sl ml, (mfs st pl sl ml).lookup name = none) :
    EM K H0 m (tMeth (CM K) name (spM K R) [] E (tVar i) as) ds st P := fun σ H L W Q q => by
  obtain ⟨dx, pl, sl, ml, A⟩ := id W
  refine ⟨_, slf L hi, m, dx, _, rfl, A.ob, hm st pl sl ml, h σ H L W _ fun vs H' tm W' r => ?_⟩
  refine ⟨H0, m, st1, l, P, vs, by rw [List.append_nil], r, W', hr, fun v H2 d st' p tm2 W2 r2 => q v H2 d st' p (tm.trans tm2) W2 r2⟩
end
section
variable {P : Program} {w : World} {K : PySem.W.Frag} {mg : Str → Option Value} {base : Heap}
/-- a method by its body: it returns -/
theorem ok_mr {x qual : Str} {params : Arguments} {body : List Stmt} {scope : Scope} {f : Addr} {fd : FuncData} {N ps : List Str} {k : Nat} {R : MS → List D → (D → MS → Prop) → Prop} (F : FunD K x qual params body scope [] [] f fd) (S : FnScope N ps scope)
    (len : ∀ st l Po, R st l Po → l.length + 1 = ps.length)
    (hb : ∀ (cdv : Value) (A : Around) (outer : List Env) (s : Shared) (H : Hp) (E : XK) (H0 : Hp) (m : Addr) (st : MS) (l : List D) (Po : D → MS → Prop), Room k (A.deeper (envOfC qual scope s.heap.objs.size f cdv)) → R st l Po →
      ∃ t, PSs (cxOf C8.CX0 P w K mg base N qual scope f cdv A outer s H E).nox body t ∧ RR K H0 m t (some (.r m) :: (l.map some ++ List.replicate (N.length - ps.length) none)) st Po) : FnOk P w K mg base C8.CX0 (k + 1) f fd ps (spM K R) := by
  refine F.ok S (fun vs H Q E h => ?_) fun cdv A outer s H vs Q E hr h => ?_
  · obtain ⟨H0, m, st, l, Po, vs', rfl, h2, _, h4, _⟩ := h
    rw [List.length_cons, h2.len]; exact len st l Po h4
  · obtain ⟨H0, m, st, l, Po, vs', rfl, h2, h3, h4, h5⟩ := h
    obtain ⟨t, ht, hd⟩ := hb cdv A outer s H E H0 m st l Po hr h4
    refine ⟨t, ht.nox, hd _ _ _ ?_ h3 h5⟩
    unfold L2.start
    rw [List.length_cons, h2.len, len st l Po h4]
    exact ⟨rfl, lo_start _ h2⟩
/-- .. it runs to its end -/
theorem ok_mn {x qual : Str} {params : Arguments} {body : List Stmt} {scope : Scope} {f : Addr} {fd : FuncData} {N ps : List Str} {k : Nat} {R : MS → List D → (D → MS → Prop) → Prop} (F : FunD K x qual params body scope [] [] f fd) (S : FnScope N ps scope)
    (len : ∀ st l Po, R st l Po → l.length + 1 = ps.length)
    (hb : ∀ (cdv : Value) (A : Around) (outer : List Env) (s : Shared) (H : Hp) (E : XK) (H0 : Hp) (m : Addr) (st : MS) (l : List D) (Po : D → MS → Prop), Room k (A.deeper (envOfC qual scope s.heap.objs.size f cdv)) → R st l Po →
      ∃ t, PSs (cxOf C8.CX0 P w K mg base N qual scope f cdv A outer s H E).nox body t ∧ ∃ ds' st', Po .n st' ∧ NM K H0 m t (some (.r m) :: (l.map some ++ List.replicate (N.length - ps.length) none)) st ds' st') : FnOk P w K mg base C8.CX0 (k + 1) f fd ps (spM K R) := by
  refine F.ok S (fun vs H Q E h => ?_) fun cdv A outer s H vs Q E hr h => ?_
  · obtain ⟨H0, m, st, l, Po, vs', rfl, h2, _, h4, _⟩ := h
    rw [List.length_cons, h2.len]; exact len st l Po h4
  · obtain ⟨H0, m, st, l, Po, vs', rfl, h2, h3, h4, h5⟩ := h
    obtain ⟨t, ht, ds', st', hp, hd⟩ := hb cdv A outer s H E H0 m st l Po hr h4
    refine ⟨t, ht.nox, hd _ _ _ ?_ h3 fun σ' H' tm W' _ => h5 .non H' .n st' hp tm W' rfl⟩
    unfold L2.start
    rw [List.length_cons, h2.len, len st l Po h4]
    exact ⟨rfl, lo_start _ h2⟩
end
end Hn
end

/- HnW7 -/
section
set_option Elab.async false
set_option linter.all false
set_option maxRecDepth 100000
set_option maxHeartbeats 4000000
namespace Hn
open PySem PySem.Spec PyProof.Rows L2 Evl
local macro_rules | `(tactic| walk_at "ev") => `(tactic| first
  | ((with_reducible show ED _ (tVar _) _ _); exact ed_var rfl)
  | ((with_reducible show ED _ (tC _) _ _); first | exact ed_s | exact ed_i | exact ed_b | exact ed_n | exact ed_c (by assumption))
  | ((with_reducible show ED _ (tOp (rIxT _) _ (tC (V.int 0))) _ _); refine' ed_ix0 ?k1 ?k2; (case k1 => walk_at "ev"); (case k2 => rfl))
  | ((with_reducible show ED _ (tOp (rIxT _) _ (tC (V.int 1))) _ _); refine' ed_ix1 ?k1 ?k2; (case k1 => walk_at "ev"); (case k2 => rfl))
  | ((with_reducible show ED _ (tOp (rIxT _) _ (tC (V.int 2))) _ _); refine' ed_ix2 ?k1 ?k2; (case k1 => walk_at "ev"); (case k2 => rfl))
  | ((with_reducible show ED _ (tOp (rIxT _) _ (tC (V.int 3))) _ _); refine' ed_ix3 ?k1 ?k2; (case k1 => walk_at "ev"); (case k2 => rfl))
  | ((with_reducible show ED _ (tOp (rIxT _) _ (tC (V.int 4))) _ _); refine' ed_ix4 ?k1 ?k2; (case k1 => walk_at "ev"); (case k2 => rfl))
  | ((with_reducible show ED _ (tOp (rIxT _) _ (tC (V.int 5))) _ _); refine' ed_ix5 ?k1 ?k2; (case k1 => walk_at "ev"); (case k2 => rfl))
  | ((with_reducible show ED _ (tOp (rIxT _) _ (tVar _)) _ _); first
    | (refine' ed_ixE (j := 1) ?k1 ?k2 ?k3 ?k4; (case k1 => walk_at "ev"); (case k2 => walk_at "ev"); (case k3 => rfl); (case k4 => first | rfl | decide))
    | (refine' ed_ixE (j := 2) ?k1 ?k2 ?k3 ?k4; (case k1 => walk_at "ev"); (case k2 => walk_at "ev"); (case k3 => rfl); (case k4 => first | rfl | decide)))
  | ((with_reducible show ED _ (tCB _ (tCons _ tNil)) _ _); refine' ed_len ?k1 ?k2; (case k1 => walk_at "ev"); (case k2 => rfl))
  | ((with_reducible show ED _ (tTup _) _ _); refine' ed_tup ?k1 ?k2; (case k1 => walk_at "es"); (case k2 => exact Nat.le_of_ble_eq_true rfl))
  | ((with_reducible show ED _ (tCall _ _ _ _) _ _); refine' ed_call ?k1 ?k2; (case k1 => walk_at "es"); (case k2 => walk_at "cl"))
  | ((with_reducible show ED _ (tCallN _ _ _ _ _ _ _) _ _); refine' ed_callK ?k1 ?k2 ?k3 ?k4 ?k5; (case k1 => walk_at "es"); (case k2 => walk_at "es"); (case k3 => walk_at "cl"); (case k4 => rfl); (case k5 => rfl))
  | ((with_reducible show ED _ (tOp (rI0 _) _ _) _ _); first
    | (refine' ed_add ?k1 ?k2; (case k1 => walk_at "ev"); (case k2 => walk_at "ev"))
    | (refine' ed_sub ?k1 ?k2; (case k1 => walk_at "ev"); (case k2 => walk_at "ev"))
    | (refine' ed_lt ?k1 ?k2; (case k1 => walk_at "ev"); (case k2 => walk_at "ev"))))
local macro_rules | `(tactic| walk_at "es") => `(tactic| first
  | ((with_reducible show EDs _ tNil _ _); exact es_nil)
  | ((with_reducible show EDs _ (tCons _ _) _ _); refine' es_cons ?k1 ?k2; (case k1 => walk_at "ev"); (case k2 => walk_at "es")))
local macro_rules | `(tactic| walk_at "eb") => `(tactic| first
  | ((with_reducible show EB _ (tTest (tOp rEq _ _)) _ _); refine' eb_eqS ?k1 ?k2 ?k3; (case k1 => walk_at "ev"); (case k2 => walk_at "ev"); (case k3 => first | decide +kernel | assumption))
  | ((with_reducible show EB _ (tTest (tOp rNe _ _)) _ _); refine' eb_neS ?k1 ?k2 ?k3; (case k1 => walk_at "ev"); (case k2 => walk_at "ev"); (case k3 => first | decide +kernel | assumption))
  | ((with_reducible show EB _ (tTest (tOp (rEqD _) _ _)) _ _); first
    | (refine' eb_ck ?k1 ?k2 ?k3 ?k4; (case k1 => walk_at "ev"); (case k2 => walk_at "ev"); (case k3 => first | rfl | decide +kernel | assumption); (case k4 => first | assumption | decide +kernel | omega))
    | (refine' eb_tyA ?k1 ?k2 ?k3 ?k4; (case k1 => walk_at "ev"); (case k2 => walk_at "ev"); (case k3 => first | rfl | decide +kernel | assumption); (case k4 => first | assumption | decide +kernel | omega))
    | (refine' eb_ty ?k1 ?k2 ?k3 ?k4 ?k5; (case k1 => walk_at "ev"); (case k2 => walk_at "ev"); (case k3 => first | assumption | rfl); (case k4 => first | assumption | decide +kernel | omega); (case k5 => first | assumption | decide +kernel | omega)))
  | ((with_reducible show EB _ (tTest (tOp (rIn _ _) _ _)) _ _); refine' eb_in ?k1 ?k2 ?k3; (case k1 => walk_at "ev"); (case k2 => walk_at "ev"); (case k3 => decide +kernel))
  | ((with_reducible show EB _ (tOr _ _) _ _); first
    | (refine' eb_or (b := true) ?k1 ?k2 ?k3; (case k1 => walk_at "eb"); (case k2 => intro z; cases z); (case k3 => intro _; rfl))
    | (refine' eb_or (b := false) ?k1 ?k2 ?k3; (case k1 => walk_at "eb"); (case k2 => intro _; walk_at "eb"); (case k3 => intro z; cases z)))
  | ((with_reducible show EB _ (tAnd _ _) _ _); first
    | (refine' eb_and (b := false) ?k1 ?k2 ?k3; (case k1 => walk_at "eb"); (case k2 => intro z; cases z); (case k3 => intro _; rfl))
    | (refine' eb_and (b := true) ?k1 ?k2 ?k3; (case k1 => walk_at "eb"); (case k2 => intro _; walk_at "eb"); (case k3 => intro z; cases z)))
  | ((with_reducible show EB _ (tNot _) _ _); first | (refine' eb_not (b := true) ?k1 rfl; (case k1 => walk_at "eb")) | (refine' eb_not (b := false) ?k1 rfl; (case k1 => walk_at "eb")))
  | ((with_reducible show EB _ (tB _) _ _); refine' eb_val ?k1; (case k1 => walk_at "ev")))
local macro_rules | `(tactic| walk_at "rd") => `(tactic| first
  | ((with_reducible show RD _ (tRet _) _ _); refine' rd_ret ?k1; (case k1 => walk_at "ev"))
  | ((with_reducible show RD _ (tSeq (tIfS _ _ tNext) _) _ _); (first
    | ((with_reducible refine' rd_skip ?k1 ?k2); (case k1 => walk_at "eb"))
    | ((with_reducible refine' rd_take ?k1 ?k2); (case k1 => walk_at "eb"))); (walk_at "rd"))
  | ((with_reducible show RD _ (tIfS _ _ _) _ _); (first
    | ((with_reducible refine' rd_yes ?k1 ?k2); (case k1 => walk_at "eb"))
    | ((with_reducible refine' rd_no ?k1 ?k2); (case k1 => walk_at "eb"))); (walk_at "rd"))
  | ((with_reducible show RD _ (tSeq _ _) _ _); (with_reducible refine' rd_sn ?k1 ?k2); (case k1 => walk_at "nd"); (case k2 => walk_at "rd")))
local macro_rules | `(tactic| walk_at "nd") => `(tactic| first
  | ((with_reducible show ND _ tNext _ _); exact nd_next)
  | ((with_reducible show ND _ (tAsg _ _) _ _); refine' nd_asg ?k1; (case k1 => walk_at "ev"))
  | ((with_reducible show ND _ (tIfS _ _ _) _ _); (first
    | ((with_reducible refine' nd_yes ?k1 ?k2); (case k1 => walk_at "eb"))
    | ((with_reducible refine' nd_no ?k1 ?k2); (case k1 => walk_at "eb"))); (walk_at "nd"))
  | ((with_reducible show ND _ (tSeq _ _) _ _); (with_reducible refine' nd_sn ?k1 ?k2); (case k1 => walk_at "nd"); (case k2 => walk_at "nd")))
local macro_rules | `(tactic| walk_at "cl") => `(tactic| first | assumption | skip)
section
variable {K : PySem.W.Frag} {H0 H : Hp} {m dx pl sl ml q : Addr} {st : MS} {a b c : Int}
theorem MA.most (A : MA K H0 m dx pl sl ml st H) (hq : H q = some (.lst [.int a, .int b, .int c])) (n : sl ≠ q) : MA K H0 m dx pl sl q { st with m0 := a, m1 := b, m2 := c } (upd H m (.ins (CM K) dx (putF "most" (.ref q) (mfs st pl sl ml)))) := by
  obtain ⟨xs, s1, s2⟩ := A.sk
  have tm : Tm K H (upd H m (.ins (CM K) dx (putF "most" (.ref q) (mfs st pl sl ml)))) := tm_ins A.ob
  refine ⟨by rw [upd_same, mf_putmost], by rw [upd_ne (mach_ne_l A A.pr)]; exact A.pr, ⟨xs, by rw [upd_ne (mach_ne_l A s1)]; exact s1, s2.mono tm⟩, by rw [upd_ne (mach_ne_l A hq)]; exact hq, A.d1, n, ex_upd A.ex A.n1, A.n1, A.n2, fun a v h => ?_⟩
  obtain ⟨h1, dc, y, h2, h3⟩ := A.ce a v h
  exact ⟨h1, dc, y, by rw [upd_ne (cell_ne A h2)]; exact h2, h3.mono tm⟩
end
section
variable {P : Program} {w : World} {K : PySem.W.Frag} {mg : Str → Option Value} {base : Heap}
/-! ### measure -/
def RMeas : MS → List D → (D → MS → Prop) → Prop := fun st l Po => l = [] ∧ Po = Is .n (meas st)
theorem ok_measure (T : Tx w K mg) : C8.Met P w K mg base 1 (CM K) "measure" (spM K RMeas) [] := by
  refine mk_Machine_measure T fun fd F => ok_mn F sc_Machine_measure (fun st l Po h => by rw [h.1] <;> rfl) fun cdv A outer s H E H0 m st l Po hr h => ?_
  obtain ⟨rfl, rfl⟩ := h
  refine ⟨_, (pss_cons (ps_set (i := 1) sc_Machine_measure.nd rfl (Or.inl rfl) (pe_lst (pa_cons (pe_fld (pv 0) rfl) (pa_cons (pe_fld (pv 0) rfl) (pa_cons (pe_fld (pv 0) rfl) pa_nil)))))
  (pss_one (ps_fld (pv 0) (pe_lc (own := [("old", 2), ("new", 3)]) (g := gTup K 2 (gCons (gName 2) (gCons (gName 3) gNil))) (tt := tYes) rfl sc_Machine_measure.nd (pi_zip rfl (fr_zip T) (pa_cons (pe_fld (pv 0) rfl) (pa_cons (pv 1) pa_nil))) (blkOk_by (N := ["self", "now", "old", "new"]) (sc := defScope s_Machine_measure) (by decide +kernel)) (fun _ _ _ _ _ => pg_tup rfl (pgs_cons (pg_name (i := 2) sc_Machine_measure.nd rfl (Or.inl rfl)) (pgs_cons (pg_name (i := 3) sc_Machine_measure.nd rfl (Or.inl rfl)) pgs_nil))) (fun _ _ _ _ _ => pts_nil) (fun _ _ _ _ _ => (pe_callB (call_max2 rfl) (by rfl) (fr_max T) (by decide +kernel) (pa_cons (pv 2) (pa_cons (pv 3) pa_nil))))) rfl))), [some (.r m), none, none, none], meas st, ⟨rfl, rfl⟩, ?_⟩
  intro De σ H L W q
  obtain ⟨dx, pl, sl, ml, A⟩ := W
  obtain ⟨v0, σ, rfl, r0, La⟩ := loS L
  have r0' : v0 = .ref m := r0
  subst r0'
  obtain ⟨x1, σ, rfl, Lb⟩ := loN La
  obtain ⟨x2, σ, rfl, Lc⟩ := loN Lb
  obtain ⟨x3, σ, rfl, Ld⟩ := loN Lc
  obtain rfl := lo0 Ld
  obtain ⟨xs, s1, s2⟩ := A.sk
  refine ⟨_, rfl, m, _, dx, _, _, rfl, A.ob, cl_Machine T, na_Machine_waiting T, mf_look .wt st pl sl ml, _, rfl, m, _, dx, _, _, rfl, A.ob, cl_Machine T, na_Machine_pending T, mf_look .pd st pl sl ml,
    _, rfl, m, _, dx, _, _, rfl, A.ob, cl_Machine T, na_Machine_cells T, mf_look .cl st pl sl ml, (by show 3 ≤ sizeLine; decide), fun nw hn => ?_⟩
  have e1 : Ex H (upd H nw (.lst [.int st.wt, .int st.pd, .int st.cl])) := Ex.new hn
  refine ⟨_, rfl, m, _, dx, _, _, rfl, e1 _ _ A.ob, cl_Machine T, na_Machine_most T, mf_most st pl sl ml, _, rfl, ml, nw, _, _, rfl, SqL.of (e1 _ _ A.mo), SqL.of upd_same, fun Dl nD => ?_⟩
  have e2 : Ex (upd H nw (.lst [.int st.wt, .int st.pd, .int st.cl])) (upd (upd H nw (.lst [.int st.wt, .int st.pd, .int st.cl])) Dl (.lst [])) := Ex.new nD
  refine lc_it (walk_zip (K := K) (a := ml) (b := nw) (xs := [.int st.m0, .int st.m1, .int st.m2]) (ys := [.int st.wt, .int st.pd, .int st.cl]) (n := 3) rfl)
    (fun i H2 => Ex (upd H nw (.lst [.int st.wt, .int st.pd, .int st.cl])) H2 ∧ H2 Dl = some (.lst (([mx st.m0 st.wt, mx st.m1 st.pd, mx st.m2 st.cl].take i).map V.int))) ⟨e2, upd_same⟩
    (fun i H2 _ ⟨e3, _⟩ => ⟨SqL.of (e3 _ _ (e1 _ _ A.mo)), SqL.of (e3 _ _ upd_same)⟩) (fun i x H2 H3 hi ⟨e3, hD⟩ hy => ?_) fun H2 ⟨e3, hD⟩ => ?_
  · obtain ⟨Tt, y, z, rfl, nT, rfl, hy, hz⟩ := hy
    have e4 : Ex H2 (upd H2 Tt (.tup [y, z])) := Ex.new nT
    have nTD : Tt ≠ Dl := (ne_of_none hD nT).symm
    obtain ⟨j, k, rfl, rfl, em⟩ : ∃ j k : Int, y = .int j ∧ z = .int k ∧ [mx st.m0 st.wt, mx st.m1 st.pd, mx st.m2 st.cl][i]? = some (mx j k) := by
      match i, hi, hy, hz with
      | 0, _, hy, hz => cases hy; cases hz; exact ⟨_, _, rfl, rfl, rfl⟩
      | 1, _, hy, hz => cases hy; cases hz; exact ⟨_, _, rfl, rfl, rfl⟩
      | 2, _, hy, hz => cases hy; cases hz; exact ⟨_, _, rfl, rfl, rfl⟩
    refine ⟨Tt, [.int j, .int k], rfl, SqT.of upd_same, rfl, .int j, [.int k], rfl, .int k, [], rfl, rfl, rfl, .int j, rfl, .int k, rfl, j, k, rfl, _, e4 _ _ hD, by rw [List.length_map, List.length_take]; exact small1000 (by omega), ?_, ?_⟩
    · exact ex_upd (e3.trans e4) nD
    · rw [upd_same, List.take_add_one, em, List.map_append] <;> rfl
  · have A2 := A.grow (e1.trans e3)
    have nsD : sl ≠ Dl := ne_of_none (e1 _ _ s1) nD
    refine ⟨_, rfl, m, _, dx, _, rfl, A2.ob, cl_Machine T, na_Machine_most T, (by show 7 < 1000; decide), ?_⟩
    have tm : Tm K H2 (upd H2 m (.ins (CM K) dx (putF "most" (.ref Dl) (mfs st pl sl ml)))) := tm_ins A2.ob
    refine q _ _ ((Tm.ex (e1.trans e3)).trans tm) ⟨_, _, _, _, A2.most hD nsD⟩ ?_
    exact ⟨rfl, by cases x2 <;> cases x3 <;> trivial⟩
/-! ### wait, go_on -/
def RWait : MS → List D → (D → MS → Prop) → Prop := fun st l Po => ∃ f, l = [Fr.d f] ∧ st.stk.length ≤ 990 ∧ Po = Is .n (wait st f)
theorem ok_wait (T : Tx w K mg) : C8.Met P w K mg base 2 (CM K) "wait" (spM K RWait) [] := by
  have c_measure := ok_measure (P := P) (base := base) T
  refine mk_Machine_wait T fun fd F => ok_mn F sc_Machine_wait (fun st l Po h => by obtain ⟨f, rfl, _⟩ := h; rfl) fun cdv A outer s H E H0 m st l Po hr h => ?_
  obtain ⟨f, rfl, hz, rfl⟩ := h
  refine ⟨_, (pss_cons (ps_expr (pe_bm PySem.F.plainAttrs_list PySem.F.slot_list_append PySem.F.type_list_append mt_append (pe_fld (pv 0) rfl) (pa_cons (pv 1) pa_nil)))
  (pss_cons (ps_fldaug (pv 0) pe_int in_add)
  (pss_one (ps_expr (C8.pe_mt0 c_measure hr (by omega) (pv 0)))))), [some (.r m), some (Fr.d f)], wait st f, ⟨rfl, rfl⟩, ?_⟩
  refine nm_sn (nm_push T (fr := f) rfl (by walk_at "ev") (by omega)) (nm_sn (nm_add T .wt rfl ed_i) (nm_drop (em_meth rfl ems_nil ⟨rfl, rfl⟩ fun _ _ _ _ => by kernel_rfl)))
def RGo : MS → List D → (D → MS → Prop) → Prop := fun st l Po => ∃ f r, l = [] ∧ st.stk = f :: r ∧ Po = Is (Fr.d f) { st with stk := r, wt := st.wt - 1 }
theorem ok_go_on (T : Tx w K mg) : C8.Met P w K mg base 1 (CM K) "go_on" (spM K RGo) [] := by
  refine mk_Machine_go_on T fun fd F => ok_mr F sc_Machine_go_on (fun st l Po h => by obtain ⟨f, r, rfl, _⟩ := h; rfl) fun cdv A outer s H E H0 m st l Po hr h => ?_
  obtain ⟨f, r, rfl, hs, rfl⟩ := h
  refine ⟨_, (pss_cons (ps_fldaug (pv 0) pe_int in_sub)
  (pss_one (ps_ret (pe_bm0 PySem.F.plainAttrs_list PySem.F.slot_list_pop PySem.F.type_list_pop mt_pop (pe_fld (pv 0) rfl))))), ?_⟩
  exact rr_sn (nm_sub T .wt rfl ed_i) (rr_ret (em_pop T (fr := f) (rest := r) rfl hs))
/-! ### remove_pending, add_pending -/
def RRem : MS → List D → (D → MS → Prop) → Prop := fun st l Po => ∃ c st', l = [] ∧ remP st = some (c, st') ∧ Po = Is (Ck.d c) st'
theorem remP_some {st st' : MS} {c : Ck} (h : remP st = some (c, st')) : ∃ r, st.stk = .ck c :: r ∧ dp c ≤ FJ ∧ st' = { st with stk := r, pd := st.pd - 1, cl := st.cl - size c } := by
  unfold remP at h
  split at h
  · rename_i c0 r hs
    split at h
    · rename_i hd
      cases h
      exact ⟨r, hs, hd, rfl⟩
    · cases h
  · cases h
theorem ok_remove (T : Tx w K mg) : C8.Met P w K mg base 26 (CM K) "remove_pending" (spM K RRem) [] := by
  have c_check_size : C8.Cal P w K mg base 25 "check_size" (spD K (RSz FJ)) [] := ok_size T FJ
  refine mk_Machine_remove_pending T fun fd F => ok_mr F sc_Machine_remove_pending (fun st l Po h => by obtain ⟨f, r, rfl, _⟩ := h; rfl) fun cdv A outer s H E H0 m st l Po hr h => ?_
  obtain ⟨c, st', rfl, hs, rfl⟩ := h
  obtain ⟨r, h1, h2, rfl⟩ := remP_some hs
  refine ⟨_, (pss_cons (ps_set (i := 1) sc_Machine_remove_pending.nd rfl (Or.inl rfl) (pe_ix ix_tup (pe_bm0 PySem.F.plainAttrs_list PySem.F.slot_list_pop PySem.F.type_list_pop mt_pop (pe_fld (pv 0) rfl)) pe_int (fun _ _ => rfl)))
  (pss_cons (ps_fldaug (pv 0) pe_int in_sub)
  (pss_cons (ps_fldaug (pv 0) (C8.pe_c c_check_size hr (by omega) rfl (pa_cons (pv 1) pa_nil)) in_sub)
  (pss_one (ps_ret (pv 1)))))), ?_⟩
  have q1 : RSz FJ [Ck.d c] (.i (size c)) := ⟨c, rfl, h2, rfl⟩
  refine rr_sn (nm_asg (em_ix (l := [.s "check", Ck.d c]) (em_pop T (fr := .ck c) (rest := r) rfl h1) (j := 1) rfl)) ?_
  refine rr_sn (nm_sub T .pd rfl ed_i) (rr_sn (nm_sub T .cl (k := size c) rfl (by walk_at "ev")) (rr_ret (em_ed (by walk_at "ev"))))
def RAdd : MS → List D → (D → MS → Prop) → Prop := fun st l Po => ∃ c st', l = [Ck.d c] ∧ addP st c = some st' ∧ st.stk.length ≤ 980 ∧ Po = Is .n st'
def coks : List Str := ["num", "flag", "unit", "name", "fun", "rec", "call", "let", "if", "pair", "box", "get", "put", "op", "cast"]
theorem co_k (e : Co) : e.k ∈ coks := by cases e <;> simp [Co.k, coks]
theorem co_k_ne : ∀ x ∈ coks, decide (x = ("check" : Str)) = false := by decide +kernel
theorem fr_tag (f : Fr) : (∃ c, f = .ck c) ∨ ∃ x l, f.d = .t (.s x :: l) ∧ decide (x = ("check" : Str)) = false := by
  cases f with
  | ck c => exact .inl ⟨c, rfl⟩
  | co e en =>
    exact .inr ⟨e.k, _, rfl, co_k_ne _ (co_k e)⟩
  | sec h v => exact .inr ⟨_, _, rfl, by decide +kernel⟩
  | opd b v => exact .inr ⟨_, _, rfl, by decide +kernel⟩
theorem ok_add (T : Tx w K mg) : C8.Met P w K mg base 50 (CM K) "add_pending" (spM K RAdd) [] := by
  have c_check_size : C8.Cal P w K mg base 25 "check_size" (spD K (RSz FJ)) [] := ok_size T FJ
  have c_join : C8.Cal P w K mg base 49 "join" (spD K (RJ FJ)) [] := ok_join T FJ
  have c_measure := ok_measure (P := P) (base := base) T
  have c_remove_pending := ok_remove (P := P) (base := base) T
  refine mk_Machine_add_pending T fun fd F => ok_mn F sc_Machine_add_pending (fun st l Po h => by obtain ⟨f, r, rfl, _⟩ := h; rfl) fun cdv A outer s H E H0 m st l Po hr h => ?_
  obtain ⟨c, st', rfl, hs, hz, rfl⟩ := h
  refine ⟨_, (pss_cons (ps_if (PW.pt (pw_and (pt_truth (pe_fld (pv 0) rfl) (by intro _; rfl)) (pw_and1 (pt_cmpR op_eq (pe_ix ix_tup (pe_ix ix_list (pe_fld (pv 0) rfl) (pe_un un_neg pe_int) (fun _ _ => rfl)) pe_int (fun _ _ => rfl)) pe_str (nomark _))))) (pss_one (ps_set (i := 1) sc_Machine_add_pending.nd rfl (Or.inl rfl) (C8.pe_c c_join hr (by omega) rfl (pa_cons (pv 1) (pa_cons (C8.pe_mt0 c_remove_pending hr (by omega) (pv 0)) pa_nil))))) pss_nil)
  (pss_cons (ps_expr (pe_bm PySem.F.plainAttrs_list PySem.F.slot_list_append PySem.F.type_list_append mt_append (pe_fld (pv 0) rfl) (pa_cons (pe_tup (pa_cons pe_str (pa_cons (pv 1) pa_nil))) pa_nil)))
  (pss_cons (ps_fldaug (pv 0) pe_int in_add)
  (pss_cons (ps_fldaug (pv 0) (C8.pe_c c_check_size hr (by omega) rfl (pa_cons (pv 1) pa_nil)) in_add)
  (pss_one (ps_expr (C8.pe_mt0 c_measure hr (by omega) (pv 0)))))))), ?_⟩
  unfold addP at hs
  split at hs
  case isFalse => cases hs
  rename_i hd
  have last : ∀ (st1 : MS) (j : Ck), pushP st1 j = some st' → st1.stk.length ≤ 980 → ∃ ds', NM K H0 m (tSeq (tDrop (tBM K "list" rAppend (tFld K (tVar 0) "stack") (tCons (tTup (tCons (tC (.str "check")) (tCons (tVar 1) tNil))) tNil))) (tSeq (sFldAug K (tVar 0) (tC (.int 1)) rAdd "pending")
      (tSeq (sFldAug K (tVar 0) (tCall (spD K (RSz FJ)) [] C8.E0 (tCons (tVar 1) tNil)) rAdd "cells") (tDrop (tMeth (CM K) "measure" (spM K RMeas) [] C8.E0 (tVar 0) tNil))))) [some (.r m), some (Ck.d j)] st1 ds' st' := fun st1 j hp hz1 => by
    unfold pushP at hp
    split at hp
    case isFalse => cases hp
    rename_i hdj
    cases hp
    have q1 : RSz FJ [Ck.d j] (.i (size j)) := ⟨j, rfl, hdj, rfl⟩
    exact ⟨_, nm_sn (nm_push T (fr := .ck j) rfl (by walk_at "ev") (by omega)) (nm_sn (nm_add T .pd rfl ed_i) (nm_sn (nm_add T .cl (k := size j) rfl (by walk_at "ev")) (nm_drop (em_meth rfl ems_nil ⟨rfl, rfl⟩ fun _ _ _ _ => by kernel_rfl))))⟩
  cases hk : st.stk with
  | nil =>
    simp only [hk] at hs
    obtain ⟨ds', h⟩ := last st c hs hz
    exact ⟨ds', st', ⟨rfl, rfl⟩, nm_sn (nm_no (bm_and0 (bm_stack T rfl (by rw [hk] <;> rfl))) nm_next) h⟩
  | cons f r =>
    rcases fr_tag f with ⟨c0, rfl⟩ | ⟨x, l, hl, hx⟩
    · simp only [hk] at hs
      obtain ⟨⟨c1, st1⟩, hr1, hs⟩ := Option.bind_eq_some_iff.mp hs
      obtain ⟨j, hj, hs⟩ := Option.bind_eq_some_iff.mp hs
      obtain ⟨r', h1, h2, e1⟩ := remP_some hr1
      have q1 := rj hj (by have : dp c ≤ 24 := hd; omega) (by have : dp c1 ≤ 24 := h2; show dp c1 ≤ 60; omega)
      obtain ⟨ds', h⟩ := last st1 j hs (by rw [e1]; rw [h1] at hz; simp only [List.length_cons] at hz; show r'.length ≤ 980; omega)
      refine ⟨ds', st', ⟨rfl, rfl⟩, nm_sn (ds' := [some (.r m), some (Ck.d j)]) (nm_yes (bm_and (bm_stack T rfl (by rw [hk] <;> rfl)) (bm_eqS (x := "check") (em_ix (l := [.s "check", Ck.d c0]) (em_top T (fr := .ck c0) (rest := r) rfl hk) (j := 0) rfl) (by decide +kernel))) (nm_asg (i := 1) (em_call (ems_cons (em_ed (by walk_at "ev")) (ems_cons (em_meth rfl ems_nil ⟨c1, st1, rfl, hr1, rfl⟩ fun _ _ _ _ => by kernel_rfl) ems_nil)) q1))) h⟩
    · have hs' : pushP st c = some st' := by
        cases f with
        | ck c => cases hl; exact absurd hx (by decide +kernel)
        | co e en => simpa only [hk] using hs
        | sec h v => simpa only [hk] using hs
        | opd b v => simpa only [hk] using hs
      obtain ⟨ds', h⟩ := last st c hs' hz
      exact ⟨ds', st', ⟨rfl, rfl⟩, nm_sn (nm_no (bm_and (bm_stack T rfl (by rw [hk] <;> rfl)) (bm_eqS (x := x) (em_ix (l := .s x :: l) (by rw [← hl]; exact em_top T (fr := f) (rest := r) rfl hk) (j := 0) rfl) hx)) nm_next) h⟩
end
end Hn
end

/- HnW8 -/
section
set_option Elab.async false
set_option linter.all false
set_option maxRecDepth 100000
set_option maxHeartbeats 4000000
namespace Hn
open PySem PySem.Spec PyProof.Rows L2 Evl
local macro_rules | `(tactic| walk_at "ev") => `(tactic| first
  | ((with_reducible show ED _ (tVar _) _ _); exact ed_var rfl)
  | ((with_reducible show ED _ (tC _) _ _); first | exact ed_s | exact ed_i | exact ed_b | exact ed_n | exact ed_c (by assumption))
  | ((with_reducible show ED _ (tOp (rIxT _) _ (tC (V.int 0))) _ _); refine' ed_ix0 ?k1 ?k2; (case k1 => walk_at "ev"); (case k2 => rfl))
  | ((with_reducible show ED _ (tOp (rIxT _) _ (tC (V.int 1))) _ _); refine' ed_ix1 ?k1 ?k2; (case k1 => walk_at "ev"); (case k2 => rfl))
  | ((with_reducible show ED _ (tOp (rIxT _) _ (tC (V.int 2))) _ _); refine' ed_ix2 ?k1 ?k2; (case k1 => walk_at "ev"); (case k2 => rfl))
  | ((with_reducible show ED _ (tOp (rIxT _) _ (tC (V.int 3))) _ _); refine' ed_ix3 ?k1 ?k2; (case k1 => walk_at "ev"); (case k2 => rfl))
  | ((with_reducible show ED _ (tOp (rIxT _) _ (tC (V.int 4))) _ _); refine' ed_ix4 ?k1 ?k2; (case k1 => walk_at "ev"); (case k2 => rfl))
  | ((with_reducible show ED _ (tOp (rIxT _) _ (tC (V.int 5))) _ _); refine' ed_ix5 ?k1 ?k2; (case k1 => walk_at "ev"); (case k2 => rfl))
  | ((with_reducible show ED _ (tOp (rIxT _) _ (tVar _)) _ _); first
    | (refine' ed_ixE (j := 1) ?k1 ?k2 ?k3 ?k4; (case k1 => walk_at "ev"); (case k2 => walk_at "ev"); (case k3 => rfl); (case k4 => first | rfl | decide))
    | (refine' ed_ixE (j := 2) ?k1 ?k2 ?k3 ?k4; (case k1 => walk_at "ev"); (case k2 => walk_at "ev"); (case k3 => rfl); (case k4 => first | rfl | decide)))
  | ((with_reducible show ED _ (tCB _ (tCons _ tNil)) _ _); refine' ed_len ?k1 ?k2; (case k1 => walk_at "ev"); (case k2 => rfl))
  | ((with_reducible show ED _ (tTup _) _ _); refine' ed_tup ?k1 ?k2; (case k1 => walk_at "es"); (case k2 => exact Nat.le_of_ble_eq_true rfl))
  | ((with_reducible show ED _ (tCall _ _ _ _) _ _); refine' ed_call ?k1 ?k2; (case k1 => walk_at "es"); (case k2 => walk_at "cl"))
  | ((with_reducible show ED _ (tCallN _ _ _ _ _ _ _) _ _); refine' ed_callK ?k1 ?k2 ?k3 ?k4 ?k5; (case k1 => walk_at "es"); (case k2 => walk_at "es"); (case k3 => walk_at "cl"); (case k4 => rfl); (case k5 => rfl))
  | ((with_reducible show ED _ (tOp (rI0 _) _ _) _ _); first
    | (refine' ed_add ?k1 ?k2; (case k1 => walk_at "ev"); (case k2 => walk_at "ev"))
    | (refine' ed_sub ?k1 ?k2; (case k1 => walk_at "ev"); (case k2 => walk_at "ev"))
    | (refine' ed_lt ?k1 ?k2; (case k1 => walk_at "ev"); (case k2 => walk_at "ev"))))
local macro_rules | `(tactic| walk_at "es") => `(tactic| first
  | ((with_reducible show EDs _ tNil _ _); exact es_nil)
  | ((with_reducible show EDs _ (tCons _ _) _ _); refine' es_cons ?k1 ?k2; (case k1 => walk_at "ev"); (case k2 => walk_at "es")))
local macro_rules | `(tactic| walk_at "eb") => `(tactic| first
  | ((with_reducible show EB _ (tTest (tOp rEq _ _)) _ _); refine' eb_eqS ?k1 ?k2 ?k3; (case k1 => walk_at "ev"); (case k2 => walk_at "ev"); (case k3 => first | decide +kernel | assumption))
  | ((with_reducible show EB _ (tTest (tOp rNe _ _)) _ _); refine' eb_neS ?k1 ?k2 ?k3; (case k1 => walk_at "ev"); (case k2 => walk_at "ev"); (case k3 => first | decide +kernel | assumption))
  | ((with_reducible show EB _ (tTest (tOp (rEqD _) _ _)) _ _); first
    | (refine' eb_ck ?k1 ?k2 ?k3 ?k4; (case k1 => walk_at "ev"); (case k2 => walk_at "ev"); (case k3 => first | rfl | decide +kernel | assumption); (case k4 => first | assumption | decide +kernel | omega))
    | (refine' eb_tyA ?k1 ?k2 ?k3 ?k4; (case k1 => walk_at "ev"); (case k2 => walk_at "ev"); (case k3 => first | rfl | decide +kernel | assumption); (case k4 => first | assumption | decide +kernel | omega))
    | (refine' eb_ty ?k1 ?k2 ?k3 ?k4 ?k5; (case k1 => walk_at "ev"); (case k2 => walk_at "ev"); (case k3 => first | assumption | rfl); (case k4 => first | assumption | decide +kernel | omega); (case k5 => first | assumption | decide +kernel | omega)))
  | ((with_reducible show EB _ (tTest (tOp (rIn _ _) _ _)) _ _); refine' eb_in ?k1 ?k2 ?k3; (case k1 => walk_at "ev"); (case k2 => walk_at "ev"); (case k3 => decide +kernel))
  | ((with_reducible show EB _ (tOr _ _) _ _); first
    | (refine' eb_or (b := true) ?k1 ?k2 ?k3; (case k1 => walk_at "eb"); (case k2 => intro z; cases z); (case k3 => intro _; rfl))
    | (refine' eb_or (b := false) ?k1 ?k2 ?k3; (case k1 => walk_at "eb"); (case k2 => intro _; walk_at "eb"); (case k3 => intro z; cases z)))
  | ((with_reducible show EB _ (tAnd _ _) _ _); first
    | (refine' eb_and (b := false) ?k1 ?k2 ?k3; (case k1 => walk_at "eb"); (case k2 => intro z; cases z); (case k3 => intro _; rfl))
    | (refine' eb_and (b := true) ?k1 ?k2 ?k3; (case k1 => walk_at "eb"); (case k2 => intro _; walk_at "eb"); (case k3 => intro z; cases z)))
  | ((with_reducible show EB _ (tNot _) _ _); first | (refine' eb_not (b := true) ?k1 rfl; (case k1 => walk_at "eb")) | (refine' eb_not (b := false) ?k1 rfl; (case k1 => walk_at "eb")))
  | ((with_reducible show EB _ (tB _) _ _); refine' eb_val ?k1; (case k1 => walk_at "ev")))
local macro_rules | `(tactic| walk_at "rd") => `(tactic| first
  | ((with_reducible show RD _ (tRet _) _ _); refine' rd_ret ?k1; (case k1 => walk_at "ev"))
  | ((with_reducible show RD _ (tSeq (tIfS _ _ tNext) _) _ _); (first
    | ((with_reducible refine' rd_skip ?k1 ?k2); (case k1 => walk_at "eb"))
    | ((with_reducible refine' rd_take ?k1 ?k2); (case k1 => walk_at "eb"))); (walk_at "rd"))
  | ((with_reducible show RD _ (tIfS _ _ _) _ _); (first
    | ((with_reducible refine' rd_yes ?k1 ?k2); (case k1 => walk_at "eb"))
    | ((with_reducible refine' rd_no ?k1 ?k2); (case k1 => walk_at "eb"))); (walk_at "rd"))
  | ((with_reducible show RD _ (tSeq _ _) _ _); (with_reducible refine' rd_sn ?k1 ?k2); (case k1 => walk_at "nd"); (case k2 => walk_at "rd")))
local macro_rules | `(tactic| walk_at "nd") => `(tactic| first
  | ((with_reducible show ND _ tNext _ _); exact nd_next)
  | ((with_reducible show ND _ (tAsg _ _) _ _); refine' nd_asg ?k1; (case k1 => walk_at "ev"))
  | ((with_reducible show ND _ (tIfS _ _ _) _ _); (first
    | ((with_reducible refine' nd_yes ?k1 ?k2); (case k1 => walk_at "eb"))
    | ((with_reducible refine' nd_no ?k1 ?k2); (case k1 => walk_at "eb"))); (walk_at "nd"))
  | ((with_reducible show ND _ (tSeq _ _) _ _); (with_reducible refine' nd_sn ?k1 ?k2); (case k1 => walk_at "nd"); (case k2 => walk_at "nd")))
local macro_rules | `(tactic| walk_at "cl") => `(tactic| first | assumption | skip)
section
variable {K : PySem.W.Frag} {te : TE} {ds : Lo} {l : List D} {x : Str}
theorem eb_notN (h : ED K te ds .n) : EB K (tTest (tOp (fun x y H Q => y = .non ∧ Q (.bl (!decide (x = .non))) H) te (tC .non))) ds false := fun σ H L Q q => h σ H L _ fun v H' e r => by
  cases r
  exact ⟨rfl, false, rfl, q H' e⟩
theorem eb_notNs (h : ED K te ds (.s x)) : EB K (tTest (tOp (fun x y H Q => y = .non ∧ Q (.bl (!decide (x = .non))) H) te (tC .non))) ds true := fun σ H L Q q => h σ H L _ fun v H' e r => by
  cases r
  exact ⟨rfl, true, rfl, q H' e⟩
theorem eb_notNt (h : ED K te ds (.t l)) : EB K (tTest (tOp (fun x y H Q => y = .non ∧ Q (.bl (!decide (x = .non))) H) te (tC .non))) ds true := fun σ H L Q q => h σ H L _ fun v H' e r => by
  obtain ⟨a, xs, rfl, _⟩ := r
  exact ⟨rfl, true, rfl, q H' e⟩
end
section
variable {P : Program} {w : World} {K : PySem.W.Frag} {mg : Str → Option Value} {base : Heap}
def Nx.d : Nx → D
  | .ev e en => .t [e.d, en.d, .n] | .va v => .t [.n, .n, v.d]
/-! ### begin -/
def RBeg : MS → List D → (D → MS → Prop) → Prop := fun st l Po => ∃ e en c st', l = [Co.d e, En.d en] ∧ begin e en st = some (c, st') ∧ st.stk.length ≤ 970 ∧ Po = Is (Nx.d c) st'
theorem ok_begin (T : Tx w K mg) : C8.Met P w K mg base 51 (CM K) "begin" (spM K RBeg) [] := by
  have c_looked_up := ok_looked_up (P := P) (base := base) T
  have c_check_of : CalN P w K mg base 25 "check_of" 2 ["number", "side"] (spD K (RCh FC)) := ok_check_of T FC
  have c_add_pending := ok_add (P := P) (base := base) T
  have c_wait := ok_wait (P := P) (base := base) T
  obtain ⟨vU, uU, hUNIT_machine, rUNIT_machine, RU⟩ := gc_UNIT_machine T
  refine mk_Machine_begin T fun fd F => ok_mr F sc_Machine_begin (fun st l Po h => by obtain ⟨f, r, c, st', rfl, _⟩ := h; rfl) fun cdv A outer s H E H0 m st l Po hr h => ?_
  obtain ⟨e, en, c, st', rfl, hs, hz, rfl⟩ := h
  refine ⟨_, (pss_cons (ps_set (i := 3) sc_Machine_begin.nd rfl (Or.inl rfl) (pe_ix ix_tup (pv 1) pe_int (fun _ _ => rfl)))
  (pss_cons (ps_if (pt_cmpR op_eq (pv 3) pe_str (nomark _)) (pss_one (ps_ret (pe_tup (pa_cons pe_non (pa_cons pe_non (pa_cons (pe_tup (pa_cons pe_str (pa_cons (pe_ix ix_tup (pv 1) pe_int (fun _ _ => rfl)) pa_nil))) pa_nil)))))) pss_nil)
  (pss_cons (ps_if (pt_cmpR op_eq (pv 3) pe_str (nomark _)) (pss_one (ps_ret (pe_tup (pa_cons pe_non (pa_cons pe_non (pa_cons (pe_tup (pa_cons pe_str (pa_cons (pe_ix ix_tup (pv 1) pe_int (fun _ _ => rfl)) pa_nil))) pa_nil)))))) pss_nil)
  (pss_cons (ps_if (pt_cmpR op_eq (pv 3) pe_str (nomark _)) (pss_one (ps_ret (pe_tup (pa_cons pe_non (pa_cons pe_non (pa_cons (pe_glob rfl hUNIT_machine rUNIT_machine) pa_nil)))))) pss_nil)
  (pss_cons (ps_if (pt_cmpR op_eq (pv 3) pe_str (nomark _)) (pss_one (ps_ret (pe_tup (pa_cons pe_non (pa_cons pe_non (pa_cons (C8.pe_c c_looked_up hr (by omega) rfl (pa_cons (pv 2) (pa_cons (pe_ix ix_tup (pv 1) pe_int (fun _ _ => rfl)) pa_nil))) pa_nil)))))) pss_nil)
  (pss_cons (ps_if (pt_cmpR op_eq (pv 3) pe_str (nomark _)) (pss_one (ps_ret (pe_tup (pa_cons pe_non (pa_cons pe_non (pa_cons (pe_tup (pa_cons pe_str (pa_cons pe_non (pa_cons (pe_ix ix_tup (pv 1) pe_int (fun _ _ => rfl)) (pa_cons (pe_ix ix_tup (pv 1) pe_int (fun _ _ => rfl)) (pa_cons (pv 2) pa_nil)))))) pa_nil)))))) pss_nil)
  (pss_cons (ps_if (pt_cmpR op_eq (pv 3) pe_str (nomark _)) (pss_one (ps_ret (pe_tup (pa_cons pe_non (pa_cons pe_non (pa_cons (pe_tup (pa_cons pe_str (pa_cons (pe_ix ix_tup (pv 1) pe_int (fun _ _ => rfl)) (pa_cons (pe_ix ix_tup (pv 1) pe_int (fun _ _ => rfl)) (pa_cons (pe_ix ix_tup (pv 1) pe_int (fun _ _ => rfl)) (pa_cons (pv 2) pa_nil)))))) pa_nil)))))) pss_nil)
  (pss_cons (ps_if (pt_cmpR op_eq (pv 3) pe_str (nomark _)) (pss_cons (ps_expr (C8.pe_mt c_add_pending hr (by omega) (pv 0) (pa_cons (pe_k c_check_of hr (by omega) rfl (pa_cons (pe_ix ix_tup (pv 1) pe_int (fun _ _ => rfl)) (pa_cons (pe_ix ix_tup (pv 1) pe_int (fun _ _ => rfl)) pa_nil)) (pk_cons (pe_ix ix_tup (pv 1) pe_int (fun _ _ => rfl)) (pk_cons pe_int pk_nil))) pa_nil)))
  (pss_one (ps_ret (pe_tup (pa_cons (pe_ix ix_tup (pv 1) pe_int (fun _ _ => rfl)) (pa_cons (pv 2) (pa_cons pe_non pa_nil))))))) pss_nil)
  (pss_cons (ps_expr (C8.pe_mt c_wait hr (by omega) (pv 0) (pa_cons (pe_tup (pa_cons (pv 3) (pa_cons (pv 1) (pa_cons (pv 2) pa_nil)))) pa_nil)))
  (pss_cons (ps_if (PW.pt (pw_or (pt_cmpR op_eq (pv 3) pe_str (nomark _)) (pw_or1 (pt_cmpR op_eq (pv 3) pe_str (nomark _))))) (pss_one (ps_ret (pe_tup (pa_cons (pe_ix ix_tup (pv 1) pe_int (fun _ _ => rfl)) (pa_cons (pv 2) (pa_cons pe_non pa_nil)))))) pss_nil)
  (pss_one (ps_ret (pe_tup (pa_cons (pe_ix ix_tup (pv 1) pe_int (fun _ _ => rfl)) (pa_cons (pv 2) (pa_cons pe_non pa_nil)))))))))))))))), ?_⟩
  have nw : ∀ st pl sl ml, (mfs st pl sl ml).lookup ("wait" : Str) = none := fun _ _ _ _ => by kernel_rfl
  have na : ∀ st pl sl ml, (mfs st pl sl ml).lookup ("add_pending" : Str) = none := fun _ _ _ _ => by kernel_rfl
  have d0 : ∀ (x : Str) (l : List D), Co.d e = .t (.s x :: l) → ED K (tOp (rIxT K) (tVar 1) (tC (.int 0))) [some (.r m), some (Co.d e), some (En.d en), none] (.s x) := fun x l hl => ed_ix0 (l := .s x :: l) (ed_var (by rw [hl] <;> rfl)) rfl
  cases e
  case num i =>
    cases hs
    exact rr_rd (rd_sn (nd_asg (d0 _ _ rfl)) (by walk_at "rd"))
  case flag i =>
    cases hs
    exact rr_rd (rd_sn (nd_asg (d0 _ _ rfl)) (by walk_at "rd"))
  case unit =>
    cases hs
    exact rr_rd (rd_sn (nd_asg (d0 _ _ rfl)) (by walk_at "rd"))
  case name x =>
    obtain ⟨v, hv, hs⟩ := Option.map_eq_some_iff.mp hs
    cases hs
    have q1 : RLk [En.d en, .s (Nm.str x)] (Va.d v) := ⟨en, x, v, rfl, hv, rfl⟩
    exact rr_rd (rd_sn (nd_asg (d0 _ _ rfl)) (by walk_at "rd"))
  case fn x U e =>
    cases hs
    exact rr_rd (rd_sn (nd_asg (d0 _ _ rfl)) (by walk_at "rd"))
  case rc h x U V e =>
    cases hs
    exact rr_rd (rd_sn (nd_asg (d0 _ _ rfl)) (by walk_at "rd"))
  case cast n A' B' e =>
    have hs' : (if ht A' ≤ 50 ∧ ht B' ≤ 50 then (chkF FC A' B' n 1).bind fun c => (addP st c).map fun st' => (Nx.ev e en, st') else none) = some (c, st') := hs
    split at hs'
    case isFalse => cases hs'
    rename_i hh
    obtain ⟨ck, hc, hs'⟩ := Option.bind_eq_some_iff.mp hs'
    obtain ⟨st2, ha, hs'⟩ := Option.map_eq_some_iff.mp hs'
    cases hs'
    have q1 := rch hc hh.1 hh.2
    refine rr_sn (nm_nd (nd_asg (d0 _ _ rfl))) ?_
    refine rr_skip (bm_eb (by walk_at "eb")) (rr_skip (bm_eb (by walk_at "eb")) (rr_skip (bm_eb (by walk_at "eb")) (rr_skip (bm_eb (by walk_at "eb")) (rr_skip (bm_eb (by walk_at "eb")) (rr_skip (bm_eb (by walk_at "eb")) (rr_take (bm_eb (by walk_at "eb")) ?_))))))
    refine rr_sn (nm_drop (em_meth rfl (ems_cons (em_ed (ed_callK (es_cons (by walk_at "ev") (es_cons (by walk_at "ev") es_nil)) (es_cons (by walk_at "ev") (es_cons ed_i es_nil)) q1 rfl rfl)) ems_nil) ⟨ck, st', rfl, ha, by omega, rfl⟩ na)) (rr_rd (by walk_at "rd"))
  all_goals
    cases hs
    refine rr_sn (nm_nd (nd_asg (d0 _ _ rfl))) ?_
    refine rr_skip (bm_eb (by walk_at "eb")) (rr_skip (bm_eb (by walk_at "eb")) (rr_skip (bm_eb (by walk_at "eb")) (rr_skip (bm_eb (by walk_at "eb")) (rr_skip (bm_eb (by walk_at "eb")) (rr_skip (bm_eb (by walk_at "eb")) (rr_skip (bm_eb (by walk_at "eb")) ?_))))))
    refine rr_sn (nm_drop (em_meth rfl (ems_ed (l := [Fr.d (.co _ en)]) (es_cons (ed_tup (es_cons (ed_var rfl) (es_cons (ed_var rfl) (es_cons (ed_var rfl) es_nil))) (Nat.le_of_ble_eq_true rfl)) es_nil)) ⟨_, rfl, by omega, rfl⟩ nw)) (rr_rd (by walk_at "rd"))
/-! ### enter, finish -/
def REnt : MS → List D → (D → MS → Prop) → Prop := fun st l Po => ∃ f v c st', l = [Va.d f, Va.d v] ∧ enter f v st = some (c, st') ∧ st.stk.length ≤ 970 ∧ Po = Is (Nx.d c) st'
theorem ok_enter (T : Tx w K mg) : C8.Met P w K mg base 52 (CM K) "enter" (spM K REnt) [] := by
  have c_done : C8.Cal P w K mg base 51 "done" (spD K RDo) [] := ok_done T
  have c_add_pending := ok_add (P := P) (base := base) T
  refine mk_Machine_enter T fun fd F => ok_mr F sc_Machine_enter (fun st l Po h => by obtain ⟨f, r, c, st', rfl, _⟩ := h; rfl) fun cdv A outer s H E H0 m st l Po hr h => ?_
  obtain ⟨f, v, c, st', rfl, hs, hz, rfl⟩ := h
  refine ⟨_, (pss_cons (ps_if (pt_cmpR op_eq (pe_ix ix_tup (pv 1) pe_int (fun _ _ => rfl)) pe_str (nomark _)) (pss_cons (ps_set (i := 3) sc_Machine_enter.nd rfl (Or.inl rfl) (pe_ix ix_tup (pv 1) pe_int (fun _ _ => rfl)))
  (pss_cons (ps_set (i := 2) sc_Machine_enter.nd rfl (Or.inl rfl) (C8.pe_c c_done hr (by omega) rfl (pa_cons (pe_ix ix_tup (pv 3) pe_int (fun _ _ => rfl)) (pa_cons (pv 2) pa_nil))))
  (pss_cons (ps_expr (C8.pe_mt c_add_pending hr (by omega) (pv 0) (pa_cons (pe_ix ix_tup (pv 3) pe_int (fun _ _ => rfl)) pa_nil)))
  (pss_one (ps_set (i := 1) sc_Machine_enter.nd rfl (Or.inl rfl) (pe_ix ix_tup (pv 1) pe_int (fun _ _ => rfl))))))) pss_nil)
  (pss_cons (ps_if (pt_cmpR op_eq (pe_fld (pv 0) rfl) pe_int (nomark _)) (pss_one ps_never) pss_nil)
  (pss_cons (ps_fldaug (pv 0) pe_int in_sub)
  (pss_cons (ps_set (i := 4) sc_Machine_enter.nd rfl (Or.inl rfl) (pe_ix ix_tup (pv 1) pe_int (fun _ _ => rfl)))
  (pss_cons (ps_if (pt_cmpR op_notN (pe_ix ix_tup (pv 1) pe_int (fun _ _ => rfl)) pe_non (nomark _)) (pss_one (ps_set (i := 4) sc_Machine_enter.nd rfl (Or.inl rfl) (pe_tup (pa_cons (pe_ix ix_tup (pv 1) pe_int (fun _ _ => rfl)) (pa_cons (pv 1) (pa_cons (pv 4) pa_nil)))))) pss_nil)
  (pss_one (ps_ret (pe_tup (pa_cons (pe_ix ix_tup (pv 1) pe_int (fun _ _ => rfl)) (pa_cons (pe_tup (pa_cons (pe_ix ix_tup (pv 1) pe_int (fun _ _ => rfl)) (pa_cons (pv 2) (pa_cons (pv 4) pa_nil)))) (pa_cons pe_non pa_nil))))))))))), ?_⟩
  have na : ∀ st pl sl ml, (mfs st pl sl ml).lookup ("add_pending" : Str) = none := fun _ _ _ _ => by kernel_rfl
  have last : ∀ (f v : Va) (st : MS) (x3 : Option D), enter0 f v st = some (c, st') → RR K H0 m (tSeq (tIfS (tTest (tOp rEq (tFld K (tVar 0) "calls") (tC (.int 0)))) tNever tNext) (tSeq (sFldAug K (tVar 0) (tC (.int 1)) rSub "calls") (tSeq (tAsg (tOp (rIxT K) (tVar 1) (tC (.int 4))) (gName 4))
      (tSeq (tIfS (tTest (tOp (fun x y H Q => y = V.non ∧ Q (.bl (!decide (x = .non))) H) (tOp (rIxT K) (tVar 1) (tC (.int 1))) (tC .non))) (tAsg (tTup (tCons (tOp (rIxT K) (tVar 1) (tC (.int 1))) (tCons (tVar 1) (tCons (tVar 4) tNil)))) (gName 4)) tNext)
      (tRet (tTup (tCons (tOp (rIxT K) (tVar 1) (tC (.int 3))) (tCons (tTup (tCons (tOp (rIxT K) (tVar 1) (tC (.int 2))) (tCons (tVar 2) (tCons (tVar 4) tNil)))) (tCons (tC .non) tNil)))))))))
      [some (.r m), some (Va.d f), some (Va.d v), x3, none] st (Is (Nx.d c) st') := fun f v st x3 h => by
    cases f <;> (first | (cases h; done) | skip)
    rename_i own x e env
    have h' : (if st.calls = 0 then none else some (Nx.ev e (.cons x v (ownE own (.fn own x e env) env)), { st with calls := st.calls - 1 })) = some (c, st') := h
    split at h'
    · cases h'
    rename_i hc
    cases h'
    refine rr_skip (bm_eqI (em_fld T .ca rfl) (decide_eq_false hc)) (rr_sn (nm_sub T .ca rfl ed_i) (rr_rd ?_))
    refine rd_sn (nd_asg (by walk_at "ev")) ?_
    cases own with
    | none => exact rd_sn (nd_no (eb_notN (by walk_at "ev")) nd_next) (by walk_at "rd")
    | some h1 => exact rd_sn (nd_yes (eb_notNs (x := Nm.str h1) (by walk_at "ev")) (nd_asg (by walk_at "ev"))) (by walk_at "rd")
  cases f
  case wr f ck =>
    cases ck <;> (first | (cases hs; done) | skip)
    rename_i s1 t1
    obtain ⟨u, hu, hs⟩ := Option.bind_eq_some_iff.mp hs
    obtain ⟨st1, h1, hs⟩ := Option.bind_eq_some_iff.mp hs
    have q1 : RDo [Ck.d s1, Va.d v] (Va.d u) := ⟨s1, v, u, rfl, hu, rfl⟩
    refine rr_sn (ds' := [some (.r m), some (Va.d f), some (Va.d u), some (Ck.d (.fn s1 t1)), none]) (nm_yes (bm_eb (by walk_at "eb")) (nm_sn (nm_nd (by walk_at "nd")) (nm_sn (nm_nd (by walk_at "nd")) (nm_sn (nm_drop (em_meth rfl (ems_ed (es_cons (by walk_at "ev") es_nil)) ⟨t1, st1, rfl, h1, by omega, rfl⟩ na)) (nm_nd (by walk_at "nd")))))) (last f u st1 _ hs)
  case fn own x e env => exact rr_skip (bm_eb (by walk_at "eb")) (last _ v st none hs)
  all_goals cases hs
def RFin : MS → List D → (D → MS → Prop) → Prop := fun st l Po => ∃ h f v c st', l = [.s (Hd.str h), Va.d f, Va.d v] ∧ finish h f v st = some (c, st') ∧ st.stk.length ≤ 970 ∧ Po = Is (Nx.d c) st'
theorem MA.cell {K : PySem.W.Frag} {H0 H : Hp} {m dx pl sl ml a dc : Addr} {st : MS} {x y : V} {v : Va} (A : MA K H0 m dx pl sl ml st H) (n : H0 a = none) (h : H a = some (.ins (CC K) dc [(("content" : Str), x)])) (r : Rep K H (Va.d v) y) :
    MA K H0 m dx pl sl ml { st with sto := setS st.sto a v } (upd H a (.ins (CC K) dc [(("content" : Str), y)])) := by
  obtain ⟨xs, s1, s2⟩ := A.sk
  have tm : Tm K H (upd H a (.ins (CC K) dc [(("content" : Str), y)])) := tm_ins h
  refine ⟨by rw [upd_ne (cell_ne A h).symm]; exact A.ob, by rw [upd_ne (cell_ne_l h A.pr).symm]; exact A.pr, ⟨xs, by rw [upd_ne (cell_ne_l h s1).symm]; exact s1, s2.mono tm⟩, by rw [upd_ne (cell_ne_l h A.mo).symm]; exact A.mo, A.d1, A.d2, ex_upd A.ex n, A.n1, A.n2, fun b u hb => ?_⟩
  by_cases e : b = a
  · subst e
    have hb' : (if b = b then some v else st.sto b) = some u := hb
    rw [if_pos rfl] at hb'
    cases hb'
    exact ⟨n, dc, y, upd_same, r.mono tm⟩
  · have hb' : (if b = a then some v else st.sto b) = some u := hb
    rw [if_neg e] at hb'
    obtain ⟨h1, dc', z, h2, h3⟩ := A.ce b u hb'
    exact ⟨h1, dc', z, by rw [upd_ne e]; exact h2, h3.mono tm⟩
theorem ok_finish (T : Tx w K mg) : C8.Met P w K mg base 53 (CM K) "finish" (spM K RFin) [] := by
  have c_done : C8.Cal P w K mg base 51 "done" (spD K RDo) [] := ok_done T
  have c_enter := ok_enter (P := P) (base := base) T
  obtain ⟨vU, uU, hUNIT_machine, rUNIT_machine, RU⟩ := gc_UNIT_machine T
  refine mk_Machine_finish T fun fd F => ok_mr F sc_Machine_finish (fun st l Po h => by obtain ⟨f, r, c, x, st', rfl, _⟩ := h; rfl) fun cdv A outer s H E H0 m st l Po hr h => ?_
  obtain ⟨hd, f, v, c, st', rfl, hs, hz, rfl⟩ := h
  refine ⟨_, (pss_cons (ps_if (pt_cmpR op_eq (pv 1) pe_str (nomark _)) (pss_one (ps_ret (C8.pe_mt c_enter hr (by omega) (pv 0) (pa_cons (pv 2) (pa_cons (pv 3) pa_nil))))) pss_nil)
  (pss_cons (ps_if (pt_cmpR op_eq (pv 1) pe_str (nomark _)) (pss_one (ps_ret (pe_tup (pa_cons pe_non (pa_cons pe_non (pa_cons (pe_tup (pa_cons pe_str (pa_cons (pv 2) (pa_cons (pv 3) pa_nil)))) pa_nil)))))) pss_nil)
  (pss_cons (ps_if (pt_cmpR op_eq (pe_ix ix_tup (pv 2) pe_int (fun _ _ => rfl)) pe_str (nomark _)) (pss_cons (ps_set (i := 3) sc_Machine_finish.nd rfl (Or.inl rfl) (C8.pe_c c_done hr (by omega) rfl (pa_cons (pe_ix ix_tup (pe_ix ix_tup (pv 2) pe_int (fun _ _ => rfl)) pe_int (fun _ _ => rfl)) (pa_cons (pv 3) pa_nil))))
  (pss_one (ps_set (i := 2) sc_Machine_finish.nd rfl (Or.inl rfl) (pe_ix ix_tup (pv 2) pe_int (fun _ _ => rfl))))) pss_nil)
  (pss_cons (ps_fld (pe_ix ix_tup (pv 2) pe_int (fun _ _ => rfl)) (pv 3) rfl)
  (pss_one (ps_ret (pe_tup (pa_cons pe_non (pa_cons pe_non (pa_cons (pe_glob rfl hUNIT_machine rUNIT_machine) pa_nil)))))))))), ?_⟩
  have ne : ∀ st pl sl ml, (mfs st pl sl ml).lookup ("enter" : Str) = none := fun _ _ _ _ => by kernel_rfl
  cases hd
  case call =>
    exact rr_take (bm_eb (by walk_at "eb")) (rr_ret (em_meth rfl (ems_ed (es_cons (by walk_at "ev") (es_cons (by walk_at "ev") es_nil))) ⟨f, v, c, st', rfl, hs, hz, rfl⟩ ne))
  case pr =>
    cases hs
    exact rr_rd (by walk_at "rd")
  case put =>
    cases f <;> (first | (cases hs; done) | skip)
    rename_i a
    have hs' : (if (st.sto a).isSome = true then some (Nx.va .unit, { st with sto := setS st.sto a v }) else none) = some (c, st') := hs
    split at hs'
    case isFalse => cases hs'
    rename_i hso
    cases hs'
    refine rr_skip (bm_eb (by walk_at "eb")) (rr_skip (bm_eb (by walk_at "eb")) (rr_skip (bm_eb (by walk_at "eb")) ?_))
    refine rr_sn (ds' := [some (.r m), some (.s (Hd.str .put)), some (Va.d (.bx a)), some (Va.d v)]) (st1 := { st with sto := setS st.sto a v }) ?_ (rr_rd (by walk_at "rd"))
    intro De σ H L W q
    obtain ⟨dx, pl, sl, ml, A⟩ := W
    obtain ⟨u, hu⟩ := Option.isSome_iff_exists.mp hso
    obtain ⟨h1, dc, x, h2, h3⟩ := A.ce a u hu
    obtain ⟨y, y1, y2⟩ := L.get (i := 3) (d := Va.d v) rfl
    obtain ⟨z, z1, z2⟩ := L.get (i := 2) (d := Va.d (.bx a)) rfl
    obtain ⟨p, xs, rfl, p1, p2⟩ := z2
    obtain ⟨b, b1, b2⟩ := p2.get (j := 1) (d := .r a) rfl
    have b2' : b = .ref a := b2
    subst b2'
    refine ⟨y, y1, _, z1, p, xs, 1, .ref a, rfl, rfl, p1, atI_nat (j := 1) b1, a, _, dc, _, rfl, h2, cl_Cell T, na_Cell_content T, (by show 1 < 1000; decide), ?_⟩
    have e1 : putF "content" y [(("content" : Str), x)] = [(("content" : Str), y)] := by kernel_rfl
    rw [e1]
    exact q σ _ (tm_ins h2) ⟨_, _, _, _, A.cell h1 h2 y2⟩ (L.mono (tm_ins h2))
end
end Hn
end

/- HnW9 -/
section
set_option Elab.async false
set_option linter.all false
set_option maxRecDepth 100000
set_option maxHeartbeats 4000000
namespace Hn
open PySem PySem.Spec PyProof.Rows L2 Evl
local macro_rules | `(tactic| walk_at "ev") => `(tactic| first
  | ((with_reducible show ED _ (tVar _) _ _); exact ed_var rfl)
  | ((with_reducible show ED _ (tC _) _ _); first | exact ed_s | exact ed_i | exact ed_b | exact ed_n | exact ed_c (by assumption))
  | ((with_reducible show ED _ (tOp (rIxT _) _ (tC (V.int 0))) _ _); refine' ed_ix0 ?k1 ?k2; (case k1 => walk_at "ev"); (case k2 => rfl))
  | ((with_reducible show ED _ (tOp (rIxT _) _ (tC (V.int 1))) _ _); refine' ed_ix1 ?k1 ?k2; (case k1 => walk_at "ev"); (case k2 => rfl))
  | ((with_reducible show ED _ (tOp (rIxT _) _ (tC (V.int 2))) _ _); refine' ed_ix2 ?k1 ?k2; (case k1 => walk_at "ev"); (case k2 => rfl))
  | ((with_reducible show ED _ (tOp (rIxT _) _ (tC (V.int 3))) _ _); refine' ed_ix3 ?k1 ?k2; (case k1 => walk_at "ev"); (case k2 => rfl))
  | ((with_reducible show ED _ (tOp (rIxT _) _ (tC (V.int 4))) _ _); refine' ed_ix4 ?k1 ?k2; (case k1 => walk_at "ev"); (case k2 => rfl))
  | ((with_reducible show ED _ (tOp (rIxT _) _ (tC (V.int 5))) _ _); refine' ed_ix5 ?k1 ?k2; (case k1 => walk_at "ev"); (case k2 => rfl))
  | ((with_reducible show ED _ (tOp (rIxT _) _ (tVar _)) _ _); first
    | (refine' ed_ixE (j := 1) ?k1 ?k2 ?k3 ?k4; (case k1 => walk_at "ev"); (case k2 => walk_at "ev"); (case k3 => rfl); (case k4 => first | rfl | decide))
    | (refine' ed_ixE (j := 2) ?k1 ?k2 ?k3 ?k4; (case k1 => walk_at "ev"); (case k2 => walk_at "ev"); (case k3 => rfl); (case k4 => first | rfl | decide)))
  | ((with_reducible show ED _ (tCB _ (tCons _ tNil)) _ _); refine' ed_len ?k1 ?k2; (case k1 => walk_at "ev"); (case k2 => rfl))
  | ((with_reducible show ED _ (tTup _) _ _); refine' ed_tup ?k1 ?k2; (case k1 => walk_at "es"); (case k2 => exact Nat.le_of_ble_eq_true rfl))
  | ((with_reducible show ED _ (tCall _ _ _ _) _ _); refine' ed_call ?k1 ?k2; (case k1 => walk_at "es"); (case k2 => walk_at "cl"))
  | ((with_reducible show ED _ (tCallN _ _ _ _ _ _ _) _ _); refine' ed_callK ?k1 ?k2 ?k3 ?k4 ?k5; (case k1 => walk_at "es"); (case k2 => walk_at "es"); (case k3 => walk_at "cl"); (case k4 => rfl); (case k5 => rfl))
  | ((with_reducible show ED _ (tOp (rI0 _) _ _) _ _); first
    | (refine' ed_add ?k1 ?k2; (case k1 => walk_at "ev"); (case k2 => walk_at "ev"))
    | (refine' ed_sub ?k1 ?k2; (case k1 => walk_at "ev"); (case k2 => walk_at "ev"))
    | (refine' ed_lt ?k1 ?k2; (case k1 => walk_at "ev"); (case k2 => walk_at "ev"))))
local macro_rules | `(tactic| walk_at "es") => `(tactic| first
  | ((with_reducible show EDs _ tNil _ _); exact es_nil)
  | ((with_reducible show EDs _ (tCons _ _) _ _); refine' es_cons ?k1 ?k2; (case k1 => walk_at "ev"); (case k2 => walk_at "es")))
local macro_rules | `(tactic| walk_at "eb") => `(tactic| first
  | ((with_reducible show EB _ (tTest (tOp rEq _ _)) _ _); refine' eb_eqS ?k1 ?k2 ?k3; (case k1 => walk_at "ev"); (case k2 => walk_at "ev"); (case k3 => first | decide +kernel | assumption))
  | ((with_reducible show EB _ (tTest (tOp rNe _ _)) _ _); refine' eb_neS ?k1 ?k2 ?k3; (case k1 => walk_at "ev"); (case k2 => walk_at "ev"); (case k3 => first | decide +kernel | assumption))
  | ((with_reducible show EB _ (tTest (tOp (rEqD _) _ _)) _ _); first
    | (refine' eb_ck ?k1 ?k2 ?k3 ?k4; (case k1 => walk_at "ev"); (case k2 => walk_at "ev"); (case k3 => first | rfl | decide +kernel | assumption); (case k4 => first | assumption | decide +kernel | omega))
    | (refine' eb_tyA ?k1 ?k2 ?k3 ?k4; (case k1 => walk_at "ev"); (case k2 => walk_at "ev"); (case k3 => first | rfl | decide +kernel | assumption); (case k4 => first | assumption | decide +kernel | omega))
    | (refine' eb_ty ?k1 ?k2 ?k3 ?k4 ?k5; (case k1 => walk_at "ev"); (case k2 => walk_at "ev"); (case k3 => first | assumption | rfl); (case k4 => first | assumption | decide +kernel | omega); (case k5 => first | assumption | decide +kernel | omega)))
  | ((with_reducible show EB _ (tTest (tOp (rIn _ _) _ _)) _ _); refine' eb_in ?k1 ?k2 ?k3; (case k1 => walk_at "ev"); (case k2 => walk_at "ev"); (case k3 => decide +kernel))
  | ((with_reducible show EB _ (tOr _ _) _ _); first
    | (refine' eb_or (b := true) ?k1 ?k2 ?k3; (case k1 => walk_at "eb"); (case k2 => intro z; cases z); (case k3 => intro _; rfl))
    | (refine' eb_or (b := false) ?k1 ?k2 ?k3; (case k1 => walk_at "eb"); (case k2 => intro _; walk_at "eb"); (case k3 => intro z; cases z)))
  | ((with_reducible show EB _ (tAnd _ _) _ _); first
    | (refine' eb_and (b := false) ?k1 ?k2 ?k3; (case k1 => walk_at "eb"); (case k2 => intro z; cases z); (case k3 => intro _; rfl))
    | (refine' eb_and (b := true) ?k1 ?k2 ?k3; (case k1 => walk_at "eb"); (case k2 => intro _; walk_at "eb"); (case k3 => intro z; cases z)))
  | ((with_reducible show EB _ (tNot _) _ _); first | (refine' eb_not (b := true) ?k1 rfl; (case k1 => walk_at "eb")) | (refine' eb_not (b := false) ?k1 rfl; (case k1 => walk_at "eb")))
  | ((with_reducible show EB _ (tB _) _ _); refine' eb_val ?k1; (case k1 => walk_at "ev")))
local macro_rules | `(tactic| walk_at "rd") => `(tactic| first
  | ((with_reducible show RD _ (tRet _) _ _); refine' rd_ret ?k1; (case k1 => walk_at "ev"))
  | ((with_reducible show RD _ (tSeq (tIfS _ _ tNext) _) _ _); (first
    | ((with_reducible refine' rd_skip ?k1 ?k2); (case k1 => walk_at "eb"))
    | ((with_reducible refine' rd_take ?k1 ?k2); (case k1 => walk_at "eb"))); (walk_at "rd"))
  | ((with_reducible show RD _ (tIfS _ _ _) _ _); (first
    | ((with_reducible refine' rd_yes ?k1 ?k2); (case k1 => walk_at "eb"))
    | ((with_reducible refine' rd_no ?k1 ?k2); (case k1 => walk_at "eb"))); (walk_at "rd"))
  | ((with_reducible show RD _ (tSeq _ _) _ _); (with_reducible refine' rd_sn ?k1 ?k2); (case k1 => walk_at "nd"); (case k2 => walk_at "rd")))
local macro_rules | `(tactic| walk_at "nd") => `(tactic| first
  | ((with_reducible show ND _ tNext _ _); exact nd_next)
  | ((with_reducible show ND _ (tAsg _ _) _ _); refine' nd_asg ?k1; (case k1 => walk_at "ev"))
  | ((with_reducible show ND _ (tIfS _ _ _) _ _); (first
    | ((with_reducible refine' nd_yes ?k1 ?k2); (case k1 => walk_at "eb"))
    | ((with_reducible refine' nd_no ?k1 ?k2); (case k1 => walk_at "eb"))); (walk_at "nd"))
  | ((with_reducible show ND _ (tSeq _ _) _ _); (with_reducible refine' nd_sn ?k1 ?k2); (case k1 => walk_at "nd"); (case k2 => walk_at "nd")))
local macro_rules | `(tactic| walk_at "cl") => `(tactic| first | assumption | skip)
section
variable {K : PySem.W.Frag} {te ta tb : TE} {tt : TT} {ds : Lo} {d : D} {b : Bool}
theorem ed_if (h : EB K tt ds b) (h1 : b = true → ED K ta ds d) (h2 : b = false → ED K tb ds d) : ED K (tIf tt ta tb) ds d := fun σ H L Q q => h σ H L _ fun H' e => by
  cases b with
  | true => exact iteT (h1 rfl σ H' (L.mono (Tm.ex e)) Q fun v H2 e2 r => q v H2 (e.trans e2) r)
  | false => exact iteF (h2 rfl σ H' (L.mono (Tm.ex e)) Q fun v H2 e2 r => q v H2 (e.trans e2) r)
end
section
variable {P : Program} {w : World} {K : PySem.W.Frag} {mg : Str → Option Value} {base : Heap}
/-! ### Cell, single -/
def spCell (K : PySem.W.Frag) : Sp := fun vs H Q _ => ∃ p dx y, vs = [.ref p, y] ∧ H p = some (.ins (CC K) dx []) ∧ Q .non (upd H p (.ins (CC K) dx [(("content" : Str), y)]))
theorem ok_Cell (T : Tx w K mg) : C8.Mak P w K mg base 1 "Cell" (CC K) (spCell K) [] := by
  refine mk_Cell_init T fun fd F => F.ok sc_Cell_init (fun vs H Q E h => ?_) fun cdv A outer s H vs Q E hr h => ?_
  · obtain ⟨p, dx, y, rfl, _⟩ := h
    rfl
  · obtain ⟨p, dx, y, rfl, hp, q⟩ := h
    refine ⟨_, PSs.nox (pss_one (ps_fld (pv 0) (pv 1) rfl)), ?_⟩
    refine ⟨_, rfl, _, rfl, p, _, dx, [], rfl, hp, cl_Cell T, na_Cell_content T, (by show 0 < 1000; decide), ?_⟩
    exact q
theorem MA.newcell {H0 H : Hp} {m dx pl sl ml a dc : Addr} {st : MS} {y : V} {v : Va} (A : MA K H0 m dx pl sl ml st H) (n : H0 a = none) (h : H a = some (.ins (CC K) dc [(("content" : Str), y)])) (r : Rep K H (Va.d v) y) :
    MA K H0 m dx pl sl ml { st with sto := setS st.sto a v } H := by
  refine ⟨A.ob, A.pr, A.sk, A.mo, A.d1, A.d2, A.ex, A.n1, A.n2, fun b u hb => ?_⟩
  have hb' : (if b = a then some v else st.sto b) = some u := hb
  by_cases e : b = a
  · subst e
    rw [if_pos rfl] at hb'
    cases hb'
    exact ⟨n, dc, y, h, r⟩
  · rw [if_neg e] at hb'
    exact A.ce b u hb'
/-- a new box -/
def AlP (st : MS) (v : Va) : D → MS → Prop := fun d s => ∃ a, st.sto a = none ∧ d = Va.d (.bx a) ∧ s = { st with sto := setS st.sto a v }
theorem em_box {H0 : Hp} {m : Addr} {te : TE} {ds : Lo} {st : MS} {v : Va} {E : XK} (h : ED K te ds (Va.d v)) : EM K H0 m (tTup (tCons (tC (.str "box")) (tCons (tMake (CC K) (spCell K) [] E (tCons te tNil)) tNil))) ds st (AlP st v) := fun σ H L W Q q => by
  refine h σ H L _ fun y H1 e1 ry x dx nx ndx nex => ?_
  have W1 := W.grow e1
  obtain ⟨d0, pl, sl, ml, A⟩ := W1
  refine ⟨x, dx, y, by rw [List.append_nil], upd_same, rfl, (by show 2 ≤ sizeLine; decide), fun p np => ?_⟩
  rw [upd_upd] at np ⊢
  have nxd : upd H1 dx (.own x) x = none := by rw [upd_ne (fun z => nex z.symm)]; exact nx
  have e2 : Ex H1 (upd H1 dx (.own x)) := Ex.new ndx
  have e3 : Ex (upd H1 dx (.own x)) (upd (upd H1 dx (.own x)) x (.ins (CC K) dx [(("content" : Str), y)])) := Ex.new nxd
  have e4 : Ex (upd (upd H1 dx (.own x)) x (.ins (CC K) dx [(("content" : Str), y)])) (upd (upd (upd H1 dx (.own x)) x (.ins (CC K) dx [(("content" : Str), y)])) p (.tup [.str "box", .ref x])) := Ex.new np
  have e5 := (e2.trans e3).trans e4
  have sx : st.sto x = none := by
    cases z : st.sto x with
    | none => rfl
    | some u =>
      obtain ⟨_, dc, w0, h2, _⟩ := A.ce x u z
      rw [nx] at h2; cases h2
  have n0 : H0 x = none := fresh_back A.ex nx
  refine q _ _ _ _ ⟨x, sx, rfl, rfl⟩ (Tm.ex (e1.trans e5)) ⟨_, _, _, _, (A.grow e5).newcell n0 (e4 _ _ upd_same) (ry.ex e5)⟩ (rep_tup upd_same (.cons rfl (.cons rfl .nil)))
def RSin : MS → List D → (D → MS → Prop) → Prop := fun st l Po => (∃ v, l = [.s "box", Va.d v] ∧ Po = AlP st v) ∨ ∃ a v, l = [.s "get", Va.d (.bx a)] ∧ st.sto a = some v ∧ Po = Is (Va.d v) st
theorem ok_single (T : Tx w K mg) : C8.Met P w K mg base 52 (CM K) "single" (spM K RSin) [] := by
  have c_done : C8.Cal P w K mg base 51 "done" (spD K RDo) [] := ok_done T
  have c_Cell := ok_Cell (P := P) (base := base) T
  refine mk_Machine_single T fun fd F => ok_mr F sc_Machine_single (fun st l Po h => by obtain ⟨v, rfl, _⟩ | ⟨a, v, rfl, _⟩ := h <;> rfl) fun cdv A outer s H E H0 m st l Po hr h => ?_
  refine ⟨_, (pss_cons (ps_if (pt_cmpR op_eq (pv 1) pe_str (nomark _)) (pss_one (ps_ret (pe_tup (pa_cons pe_str (pa_cons (pe_not (pe_ix ix_tup (pv 2) pe_int (fun _ _ => rfl))) pa_nil))))) pss_nil)
  (pss_cons (ps_if (pt_cmpR op_eq (pv 1) pe_str (nomark _)) (pss_one (ps_ret (pe_tup (pa_cons pe_str (pa_cons (C8.pe_mk c_Cell hr (by omega) rfl (pa_cons (pv 2) pa_nil)) pa_nil))))) pss_nil)
  (pss_cons (ps_set (i := 3) sc_Machine_single.nd rfl (Or.inl rfl) pe_non)
  (pss_cons (ps_if (pt_cmpR op_eq (pe_ix ix_tup (pv 2) pe_int (fun _ _ => rfl)) pe_str (nomark _)) (pss_cons (ps_set (i := 3) sc_Machine_single.nd rfl (Or.inl rfl) (pe_ix ix_tup (pv 2) pe_int (fun _ _ => rfl)))
  (pss_one (ps_set (i := 2) sc_Machine_single.nd rfl (Or.inl rfl) (pe_ix ix_tup (pv 2) pe_int (fun _ _ => rfl))))) pss_nil)
  (pss_cons (ps_if (pt_cmpR op_eq (pv 1) pe_str (nomark _)) (pss_one (ps_par (i := 4) (j := 5) rfl sc_Machine_single.nd rfl rfl (by decide) rfl rfl (pa_cons (pe_fld (pe_ix ix_tup (pv 2) pe_int (fun _ _ => rfl)) rfl) (pa_cons pe_int pa_nil)) rfl)) (pss_one (ps_if (pt_cmpR op_eq (pv 1) pe_str (nomark _)) (pss_one (ps_par (i := 4) (j := 5) rfl sc_Machine_single.nd rfl rfl (by decide) rfl rfl (pa_cons (pe_ix ix_tup (pv 2) pe_int (fun _ _ => rfl)) (pa_cons pe_int pa_nil)) rfl)) (pss_one (ps_par (i := 4) (j := 5) rfl sc_Machine_single.nd rfl rfl (by decide) rfl rfl (pa_cons (pe_ix ix_tup (pv 2) pe_int (fun _ _ => rfl)) (pa_cons pe_int pa_nil)) rfl)))))
  (pss_cons (ps_if (pt_cmpR op_isN (pv 3) pe_non (nomark _)) (pss_one (ps_ret (pv 4))) pss_nil)
  (pss_one (ps_ret (C8.pe_c c_done hr (by omega) rfl (pa_cons (pe_ix ix_tup (pv 3) (pv 5) (fun _ _ => rfl)) (pa_cons (pv 4) pa_nil))))))))))), ?_⟩
  rcases h with ⟨v, rfl, rfl⟩ | ⟨a, v, rfl, hv, rfl⟩
  · exact rr_skip (bm_eb (by walk_at "eb")) (rr_take (bm_eb (by walk_at "eb")) (rr_ret (em_box (by walk_at "ev"))))
  · refine rr_skip (bm_eb (by walk_at "eb")) (rr_skip (bm_eb (by walk_at "eb")) (rr_sn (nm_nd (by walk_at "nd")) (rr_skip (bm_eb (by walk_at "eb")) ?_)))
    refine rr_sn (ds' := [some (.r m), some (.s "get"), some (Va.d (.bx a)), some .n, some (Va.d v), none]) (st1 := st) (nm_yes (bm_eb (by walk_at "eb")) ?_) (rr_take (bm_eb (eb_isN (by walk_at "ev"))) (rr_rd (by walk_at "rd")))
    intro De σ H L W q
    obtain ⟨dx, pl, sl, ml, A⟩ := id W
    obtain ⟨h1, dc, x, h2, h3⟩ := A.ce a v hv
    obtain ⟨z, z1, z2⟩ := L.get (i := 2) (d := Va.d (.bx a)) rfl
    obtain ⟨p, xs, rfl, p1, p2⟩ := z2
    obtain ⟨b, b1, b2⟩ := p2.get (j := 1) (d := .r a) rfl
    have b2' : b = .ref a := b2
    subst b2'
    refine ⟨_, z1, p, xs, 1, .ref a, rfl, rfl, p1, atI_nat (j := 1) b1, a, _, dc, _, x, rfl, h2, cl_Cell T, na_Cell_content T, by kernel_rfl, x, .int 2, rfl, ?_⟩
    have L2 := L.set h3 4
    exact q _ _ Tm.refl W (LoOk.junk (j := 5) rfl L2)
/-! ### resume -/
def AlN (st : MS) (v : Va) : D → MS → Prop := fun d s => ∃ a, st.sto a = none ∧ d = Nx.d (.va (.bx a)) ∧ s = { st with sto := setS st.sto a v }
def RRes : MS → List D → (D → MS → Prop) → Prop := fun st l Po => ∃ f v, l = [Fr.d f, Va.d v] ∧ st.stk.length ≤ 960 ∧ ((∃ c st', resume f v st = .nx c st' ∧ Po = Is (Nx.d c) st') ∨ ∃ u st', resume f v st = .al u st' ∧ Po = AlN st' u)
theorem em_tupN {H0 : Hp} {m : Addr} {te : TE} {ds : Lo} {st : MS} {P : D → MS → Prop} (h : EM K H0 m te ds st P) : EM K H0 m (tTup (tCons (tC .non) (tCons (tC .non) (tCons te tNil)))) ds st (fun d s => ∃ d', P d' s ∧ d = .t [.n, .n, d']) := fun σ H L W Q q =>
  h σ H L W _ fun v H' d st' p tm W' r => ⟨(by show 3 ≤ sizeLine; decide), fun t nt => q _ _ _ _ ⟨d, p, rfl⟩ (tm.trans (tm_new nt)) (W'.grow (Ex.new nt)) (rep_tup upd_same (.cons rfl (.cons rfl (.cons (r.mono (tm_new nt)) .nil))))⟩
theorem EM.imp {H0 : Hp} {m : Addr} {te : TE} {ds : Lo} {st : MS} {P P' : D → MS → Prop} (h : EM K H0 m te ds st P) (hp : ∀ d s, P d s → P' d s) : EM K H0 m te ds st P' := fun σ H L W Q q => h σ H L W Q fun v H' d st' p tm W' r => q v H' d st' (hp _ _ p) tm W' r
theorem ok_resume (T : Tx w K mg) : C8.Met P w K mg base 54 (CM K) "resume" (spM K RRes) [] := by
  have c_wait := ok_wait (P := P) (base := base) T
  have c_finish := ok_finish (P := P) (base := base) T
  have c_operated := ok_operated (P := P) (base := base) T
  have c_single := ok_single (P := P) (base := base) T
  refine mk_Machine_resume T fun fd F => ok_mr F sc_Machine_resume (fun st l Po h => by obtain ⟨f, v, rfl, _⟩ := h; rfl) fun cdv A outer s H E H0 m st l Po hr h => ?_
  obtain ⟨f, v, rfl, hz, h⟩ := h
  refine ⟨_, (pss_cons (ps_set (i := 3) sc_Machine_resume.nd rfl (Or.inl rfl) (pe_ix ix_tup (pv 1) pe_int (fun _ _ => rfl)))
  (pss_cons (ps_if (PW.pt (pw_or (pt_cmpR op_eq (pv 3) pe_str (nomark _)) (pw_or (pt_cmpR op_eq (pv 3) pe_str (nomark _)) (pw_or1 (pt_cmpR op_eq (pv 3) pe_str (nomark _)))))) (pss_cons (ps_expr (C8.pe_mt c_wait hr (by omega) (pv 0) (pa_cons (pe_tup (pa_cons pe_str (pa_cons (pv 3) (pa_cons (pv 2) pa_nil)))) pa_nil)))
  (pss_one (ps_ret (pe_tup (pa_cons (pe_ix ix_tup (pe_ix ix_tup (pv 1) pe_int (fun _ _ => rfl)) pe_int (fun _ _ => rfl)) (pa_cons (pe_ix ix_tup (pv 1) pe_int (fun _ _ => rfl)) (pa_cons pe_non pa_nil))))))) pss_nil)
  (pss_cons (ps_if (pt_cmpR op_eq (pv 3) pe_str (nomark _)) (pss_cons (ps_expr (C8.pe_mt c_wait hr (by omega) (pv 0) (pa_cons (pe_tup (pa_cons pe_str (pa_cons (pe_ix ix_tup (pe_ix ix_tup (pv 1) pe_int (fun _ _ => rfl)) pe_int (fun _ _ => rfl)) (pa_cons (pv 2) pa_nil)))) pa_nil)))
  (pss_one (ps_ret (pe_tup (pa_cons (pe_ix ix_tup (pe_ix ix_tup (pv 1) pe_int (fun _ _ => rfl)) pe_int (fun _ _ => rfl)) (pa_cons (pe_ix ix_tup (pv 1) pe_int (fun _ _ => rfl)) (pa_cons pe_non pa_nil))))))) pss_nil)
  (pss_cons (ps_if (pt_cmpR op_eq (pv 3) pe_str (nomark _)) (pss_one (ps_ret (C8.pe_mt c_finish hr (by omega) (pv 0) (pa_cons (pe_ix ix_tup (pv 1) pe_int (fun _ _ => rfl)) (pa_cons (pe_ix ix_tup (pv 1) pe_int (fun _ _ => rfl)) (pa_cons (pv 2) pa_nil)))))) pss_nil)
  (pss_cons (ps_if (pt_cmpR op_eq (pv 3) pe_str (nomark _)) (pss_one (ps_ret (pe_tup (pa_cons pe_non (pa_cons pe_non (pa_cons (C8.pe_c c_operated hr (by omega) rfl (pa_cons (pe_ix ix_tup (pv 1) pe_int (fun _ _ => rfl)) (pa_cons (pe_ix ix_tup (pe_ix ix_tup (pv 1) pe_int (fun _ _ => rfl)) pe_int (fun _ _ => rfl)) (pa_cons (pe_ix ix_tup (pv 2) pe_int (fun _ _ => rfl)) pa_nil)))) pa_nil)))))) pss_nil)
  (pss_cons (ps_if (pt_cmpR op_eq (pv 3) pe_str (nomark _)) (pss_one (ps_ret (pe_tup (pa_cons (pe_ix ix_tup (pe_ix ix_tup (pv 1) pe_int (fun _ _ => rfl)) pe_int (fun _ _ => rfl)) (pa_cons (pe_tup (pa_cons (pe_ix ix_tup (pe_ix ix_tup (pv 1) pe_int (fun _ _ => rfl)) pe_int (fun _ _ => rfl)) (pa_cons (pv 2) (pa_cons (pe_ix ix_tup (pv 1) pe_int (fun _ _ => rfl)) pa_nil)))) (pa_cons pe_non pa_nil)))))) pss_nil)
  (pss_cons (ps_if (pt_cmpR op_eq (pv 3) pe_str (nomark _)) (pss_one (ps_ret (pe_tup (pa_cons (pe_ifExp (pt_val (pe_ix ix_tup (pv 2) pe_int (fun _ _ => rfl))) (pe_ix ix_tup (pe_ix ix_tup (pv 1) pe_int (fun _ _ => rfl)) pe_int (fun _ _ => rfl)) (pe_ix ix_tup (pe_ix ix_tup (pv 1) pe_int (fun _ _ => rfl)) pe_int (fun _ _ => rfl))) (pa_cons (pe_ix ix_tup (pv 1) pe_int (fun _ _ => rfl)) (pa_cons pe_non pa_nil)))))) pss_nil)
  (pss_cons (ps_if (pt_cmpR op_eq (pv 3) pe_str (nomark _)) (pss_cons (ps_expr (pe_bm PySem.F.plainAttrs_list PySem.F.slot_list_append PySem.F.type_list_append mt_append (pe_fld (pv 0) rfl) (pa_cons (pe_ix ix_tup (pv 2) pe_int (fun _ _ => rfl)) pa_nil)))
  (pss_one (ps_ret (pe_tup (pa_cons (pe_ix ix_tup (pe_ix ix_tup (pv 1) pe_int (fun _ _ => rfl)) pe_int (fun _ _ => rfl)) (pa_cons (pe_ix ix_tup (pv 1) pe_int (fun _ _ => rfl)) (pa_cons pe_non pa_nil))))))) pss_nil)
  (pss_one (ps_ret (pe_tup (pa_cons pe_non (pa_cons pe_non (pa_cons (C8.pe_mt c_single hr (by omega) (pv 0) (pa_cons (pv 3) (pa_cons (pv 2) pa_nil))) pa_nil)))))))))))))), ?_⟩
  have nw : ∀ st pl sl ml, (mfs st pl sl ml).lookup ("wait" : Str) = none := fun _ _ _ _ => by kernel_rfl
  have nf : ∀ st pl sl ml, (mfs st pl sl ml).lookup ("finish" : Str) = none := fun _ _ _ _ => by kernel_rfl
  have ns : ∀ st pl sl ml, (mfs st pl sl ml).lookup ("single" : Str) = none := fun _ _ _ _ => by kernel_rfl
  have d0 : ∀ (x : Str) (l : List D), Fr.d f = .t (.s x :: l) → ED K (tOp (rIxT K) (tVar 1) (tC (.int 0))) [some (.r m), some (Fr.d f), some (Va.d v), none] (.s x) := fun x l hl => ed_ix0 (l := .s x :: l) (ed_var (by rw [hl] <;> rfl)) rfl
  cases f
  case ck c => rcases h with ⟨c, st', hs, rfl⟩ | ⟨u, st', hs, rfl⟩ <;> cases hs
  case sec hd u =>
    rcases h with ⟨c, st', hs, rfl⟩ | ⟨u1, st', hs, rfl⟩
    · have hs' : ofO (finish hd u v st) = .nx c st' := hs
      cases hf : finish hd u v st with
      | none => rw [hf] at hs'; cases hs'
      | some q =>
        obtain ⟨c1, st1⟩ := q
        rw [hf] at hs'
        cases hs'
        refine rr_sn (nm_nd (nd_asg (d0 _ _ rfl))) ?_
        exact rr_skip (bm_eb (by walk_at "eb")) (rr_skip (bm_eb (by walk_at "eb")) (rr_take (bm_eb (by walk_at "eb")) (rr_ret (em_meth rfl (ems_ed (es_cons (by walk_at "ev") (es_cons (by walk_at "ev") (es_cons (by walk_at "ev") es_nil)))) ⟨hd, u, v, _, _, rfl, hf, by omega, rfl⟩ nf))))
    · have hs' : ofO (finish hd u v st) = .al u1 st' := hs
      cases hf : finish hd u v st with
      | none => rw [hf] at hs'; cases hs'
      | some q => rw [hf] at hs'; cases hs'
  case opd b u =>
    rcases h with ⟨c, st', hs, rfl⟩ | ⟨u1, st', hs, rfl⟩
    · have hs' : ofO ((oper b u v).map fun z => (Nx.va z, st)) = .nx c st' := hs
      cases b <;> cases u <;> cases v <;> (first | (cases hs'; done) | skip) <;> cases hs'
      · rename_i i j
        have q1 : ROp [.s "-", .i i, .i j] (Va.d (.int (w32 (i - j)))) := ⟨false, i, j, .inr ⟨rfl, rfl, rfl⟩⟩
        exact rr_rd (rd_sn (nd_asg (d0 _ _ rfl)) (by walk_at "rd"))
      · rename_i i j
        have q1 : ROp [.s "<", .i i, .i j] (Va.d (.bool (decide (i < j)))) := ⟨true, i, j, .inl ⟨rfl, rfl, rfl⟩⟩
        exact rr_rd (rd_sn (nd_asg (d0 _ _ rfl)) (by walk_at "rd"))
    · have hs' : ofO ((oper b u v).map fun z => (Nx.va z, st)) = .al u1 st' := hs
      cases b <;> cases u <;> cases v <;> cases hs'
  case co e en =>
    cases e <;> (first | (rcases h with ⟨c, st', hs, rfl⟩ | ⟨u, st', hs, rfl⟩ <;> cases hs; done) | skip)
    case call e1 e2 =>
      rcases h with ⟨c, st', hs, rfl⟩ | ⟨u, st', hs, rfl⟩ <;> cases hs
      refine rr_sn (nm_nd (nd_asg (d0 "call" _ rfl))) (rr_take (bm_eb (by walk_at "eb")) ?_)
      exact rr_sn (nm_drop (em_meth rfl (ems_ed (l := [Fr.d (.sec .call v)]) (es_cons (ed_tup (es_cons ed_s (es_cons (by walk_at "ev") (es_cons (by walk_at "ev") es_nil))) (Nat.le_of_ble_eq_true rfl)) es_nil)) ⟨_, rfl, by omega, rfl⟩ nw)) (rr_rd (by walk_at "rd"))
    case pr e1 e2 =>
      rcases h with ⟨c, st', hs, rfl⟩ | ⟨u, st', hs, rfl⟩ <;> cases hs
      refine rr_sn (nm_nd (nd_asg (d0 "pair" _ rfl))) (rr_take (bm_eb (by walk_at "eb")) ?_)
      exact rr_sn (nm_drop (em_meth rfl (ems_ed (l := [Fr.d (.sec .pr v)]) (es_cons (ed_tup (es_cons ed_s (es_cons (by walk_at "ev") (es_cons (by walk_at "ev") es_nil))) (Nat.le_of_ble_eq_true rfl)) es_nil)) ⟨_, rfl, by omega, rfl⟩ nw)) (rr_rd (by walk_at "rd"))
    case put e1 e2 =>
      rcases h with ⟨c, st', hs, rfl⟩ | ⟨u, st', hs, rfl⟩ <;> cases hs
      refine rr_sn (nm_nd (nd_asg (d0 "put" _ rfl))) (rr_take (bm_eb (by walk_at "eb")) ?_)
      exact rr_sn (nm_drop (em_meth rfl (ems_ed (l := [Fr.d (.sec .put v)]) (es_cons (ed_tup (es_cons ed_s (es_cons (by walk_at "ev") (es_cons (by walk_at "ev") es_nil))) (Nat.le_of_ble_eq_true rfl)) es_nil)) ⟨_, rfl, by omega, rfl⟩ nw)) (rr_rd (by walk_at "rd"))
    case op b e1 e2 =>
      rcases h with ⟨c, st', hs, rfl⟩ | ⟨u, st', hs, rfl⟩ <;> cases hs
      refine rr_sn (nm_nd (nd_asg (d0 "op" _ rfl))) (rr_skip (bm_eb (by walk_at "eb")) (rr_take (bm_eb (by walk_at "eb")) ?_))
      exact rr_sn (nm_drop (em_meth rfl (ems_ed (l := [Fr.d (.opd b v)]) (es_cons (ed_tup (es_cons ed_s (es_cons (by walk_at "ev") (es_cons (by walk_at "ev") es_nil))) (Nat.le_of_ble_eq_true rfl)) es_nil)) ⟨_, rfl, by omega, rfl⟩ nw)) (rr_rd (by walk_at "rd"))
    case lt x e1 e2 =>
      rcases h with ⟨c, st', hs, rfl⟩ | ⟨u, st', hs, rfl⟩ <;> cases hs
      exact rr_rd (rd_sn (nd_asg (d0 "let" _ rfl)) (by walk_at "rd"))
    case ife e0 e1 e2 =>
      cases v <;> (first | (rcases h with ⟨c, st', hs, rfl⟩ | ⟨u, st', hs, rfl⟩ <;> cases hs; done) | skip)
      rename_i b
      rcases h with ⟨c, st', hs, rfl⟩ | ⟨u, st', hs, rfl⟩ <;> cases hs
      refine rr_rd (rd_sn (nd_asg (d0 "if" _ rfl)) ?_)
      refine rd_skip (by walk_at "eb") (rd_skip (by walk_at "eb") (rd_skip (by walk_at "eb") (rd_skip (by walk_at "eb") (rd_skip (by walk_at "eb") (rd_take (by walk_at "eb") (rd_ret (ed_tup (es_cons (ed_if (b := b) (eb_val (by walk_at "ev")) (fun z => by subst z; walk_at "ev") fun z => by subst z; walk_at "ev") (es_cons (by walk_at "ev") (es_cons ed_n es_nil))) (Nat.le_of_ble_eq_true rfl))))))))
    case bx e1 =>
      rcases h with ⟨c, st', hs, rfl⟩ | ⟨u, st', hs, rfl⟩ <;> cases hs
      refine rr_sn (nm_nd (nd_asg (d0 "box" _ rfl))) (rr_skip (bm_eb (by walk_at "eb")) (rr_skip (bm_eb (by walk_at "eb")) (rr_skip (bm_eb (by walk_at "eb")) (rr_skip (bm_eb (by walk_at "eb")) (rr_skip (bm_eb (by walk_at "eb")) (rr_skip (bm_eb (by walk_at "eb")) (rr_skip (bm_eb (by walk_at "eb")) (rr_ret ?_))))))))
      exact (em_tupN (em_meth rfl (ems_ed (es_cons (by walk_at "ev") (es_cons (by walk_at "ev") es_nil))) (.inl ⟨v, rfl, rfl⟩) ns)).imp fun d s h => by
        obtain ⟨d', ⟨a, h1, rfl, rfl⟩, rfl⟩ := h
        exact ⟨a, h1, rfl, rfl⟩
    case get e1 =>
      cases v <;> (first | (rcases h with ⟨c, st', hs, rfl⟩ | ⟨u, st', hs, rfl⟩ <;> cases hs; done) | skip)
      rename_i a
      cases hv : st.sto a with
      | none =>
        rcases h with ⟨c, st', hs, rfl⟩ | ⟨u, st', hs, rfl⟩
        · have hs' : ofO ((st.sto a).map fun z => (Nx.va z, st)) = .nx c st' := hs
          rw [hv] at hs'; cases hs'
        · have hs' : ofO ((st.sto a).map fun z => (Nx.va z, st)) = .al u st' := hs
          rw [hv] at hs'; cases hs'
      | some z =>
        rcases h with ⟨c, st', hs, rfl⟩ | ⟨u, st', hs, rfl⟩
        · have hs' : ofO ((st.sto a).map fun z => (Nx.va z, st)) = .nx c st' := hs
          rw [hv] at hs'; cases hs'
          refine rr_sn (nm_nd (nd_asg (d0 "get" _ rfl))) (rr_skip (bm_eb (by walk_at "eb")) (rr_skip (bm_eb (by walk_at "eb")) (rr_skip (bm_eb (by walk_at "eb")) (rr_skip (bm_eb (by walk_at "eb")) (rr_skip (bm_eb (by walk_at "eb")) (rr_skip (bm_eb (by walk_at "eb")) (rr_skip (bm_eb (by walk_at "eb")) (rr_ret ?_))))))))
          exact (em_tupN (em_meth rfl (ems_ed (es_cons (by walk_at "ev") (es_cons (by walk_at "ev") es_nil))) (.inr ⟨a, z, rfl, hv, rfl⟩) ns)).imp fun d s h => by
            obtain ⟨d', ⟨rfl, rfl⟩, rfl⟩ := h
            exact ⟨rfl, rfl⟩
        · have hs' : ofO ((st.sto a).map fun z => (Nx.va z, st)) = .al u st' := hs
          rw [hv] at hs'; cases hs'
end
end Hn
end

/- HnW10 -/
section
set_option Elab.async false
set_option linter.all false
set_option maxRecDepth 100000
set_option maxHeartbeats 4000000
namespace Hn
open PySem PySem.Spec PyProof.Rows L2 Evl
local macro_rules | `(tactic| walk_at "ev") => `(tactic| first
  | ((with_reducible show ED _ (tVar _) _ _); exact ed_var rfl)
  | ((with_reducible show ED _ (tC _) _ _); first | exact ed_s | exact ed_i | exact ed_b | exact ed_n | exact ed_c (by assumption))
  | ((with_reducible show ED _ (tOp (rIxT _) _ (tC (V.int 0))) _ _); refine' ed_ix0 ?k1 ?k2; (case k1 => walk_at "ev"); (case k2 => rfl))
  | ((with_reducible show ED _ (tOp (rIxT _) _ (tC (V.int 1))) _ _); refine' ed_ix1 ?k1 ?k2; (case k1 => walk_at "ev"); (case k2 => rfl))
  | ((with_reducible show ED _ (tOp (rIxT _) _ (tC (V.int 2))) _ _); refine' ed_ix2 ?k1 ?k2; (case k1 => walk_at "ev"); (case k2 => rfl))
  | ((with_reducible show ED _ (tOp (rIxT _) _ (tC (V.int 3))) _ _); refine' ed_ix3 ?k1 ?k2; (case k1 => walk_at "ev"); (case k2 => rfl))
  | ((with_reducible show ED _ (tOp (rIxT _) _ (tC (V.int 4))) _ _); refine' ed_ix4 ?k1 ?k2; (case k1 => walk_at "ev"); (case k2 => rfl))
  | ((with_reducible show ED _ (tOp (rIxT _) _ (tC (V.int 5))) _ _); refine' ed_ix5 ?k1 ?k2; (case k1 => walk_at "ev"); (case k2 => rfl))
  | ((with_reducible show ED _ (tOp (rIxT _) _ (tVar _)) _ _); first
    | (refine' ed_ixE (j := 1) ?k1 ?k2 ?k3 ?k4; (case k1 => walk_at "ev"); (case k2 => walk_at "ev"); (case k3 => rfl); (case k4 => first | rfl | decide))
    | (refine' ed_ixE (j := 2) ?k1 ?k2 ?k3 ?k4; (case k1 => walk_at "ev"); (case k2 => walk_at "ev"); (case k3 => rfl); (case k4 => first | rfl | decide)))
  | ((with_reducible show ED _ (tCB _ (tCons _ tNil)) _ _); refine' ed_len ?k1 ?k2; (case k1 => walk_at "ev"); (case k2 => rfl))
  | ((with_reducible show ED _ (tTup _) _ _); refine' ed_tup ?k1 ?k2; (case k1 => walk_at "es"); (case k2 => exact Nat.le_of_ble_eq_true rfl))
  | ((with_reducible show ED _ (tCall _ _ _ _) _ _); refine' ed_call ?k1 ?k2; (case k1 => walk_at "es"); (case k2 => walk_at "cl"))
  | ((with_reducible show ED _ (tCallN _ _ _ _ _ _ _) _ _); refine' ed_callK ?k1 ?k2 ?k3 ?k4 ?k5; (case k1 => walk_at "es"); (case k2 => walk_at "es"); (case k3 => walk_at "cl"); (case k4 => rfl); (case k5 => rfl))
  | ((with_reducible show ED _ (tOp (rI0 _) _ _) _ _); first
    | (refine' ed_add ?k1 ?k2; (case k1 => walk_at "ev"); (case k2 => walk_at "ev"))
    | (refine' ed_sub ?k1 ?k2; (case k1 => walk_at "ev"); (case k2 => walk_at "ev"))
    | (refine' ed_lt ?k1 ?k2; (case k1 => walk_at "ev"); (case k2 => walk_at "ev"))))
local macro_rules | `(tactic| walk_at "es") => `(tactic| first
  | ((with_reducible show EDs _ tNil _ _); exact es_nil)
  | ((with_reducible show EDs _ (tCons _ _) _ _); refine' es_cons ?k1 ?k2; (case k1 => walk_at "ev"); (case k2 => walk_at "es")))
local macro_rules | `(tactic| walk_at "eb") => `(tactic| first
  | ((with_reducible show EB _ (tTest (tOp rEq _ _)) _ _); refine' eb_eqS ?k1 ?k2 ?k3; (case k1 => walk_at "ev"); (case k2 => walk_at "ev"); (case k3 => first | decide +kernel | assumption))
  | ((with_reducible show EB _ (tTest (tOp rNe _ _)) _ _); refine' eb_neS ?k1 ?k2 ?k3; (case k1 => walk_at "ev"); (case k2 => walk_at "ev"); (case k3 => first | decide +kernel | assumption))
  | ((with_reducible show EB _ (tTest (tOp (rEqD _) _ _)) _ _); first
    | (refine' eb_ck ?k1 ?k2 ?k3 ?k4; (case k1 => walk_at "ev"); (case k2 => walk_at "ev"); (case k3 => first | rfl | decide +kernel | assumption); (case k4 => first | assumption | decide +kernel | omega))
    | (refine' eb_tyA ?k1 ?k2 ?k3 ?k4; (case k1 => walk_at "ev"); (case k2 => walk_at "ev"); (case k3 => first | rfl | decide +kernel | assumption); (case k4 => first | assumption | decide +kernel | omega))
    | (refine' eb_ty ?k1 ?k2 ?k3 ?k4 ?k5; (case k1 => walk_at "ev"); (case k2 => walk_at "ev"); (case k3 => first | assumption | rfl); (case k4 => first | assumption | decide +kernel | omega); (case k5 => first | assumption | decide +kernel | omega)))
  | ((with_reducible show EB _ (tTest (tOp (rIn _ _) _ _)) _ _); refine' eb_in ?k1 ?k2 ?k3; (case k1 => walk_at "ev"); (case k2 => walk_at "ev"); (case k3 => decide +kernel))
  | ((with_reducible show EB _ (tOr _ _) _ _); first
    | (refine' eb_or (b := true) ?k1 ?k2 ?k3; (case k1 => walk_at "eb"); (case k2 => intro z; cases z); (case k3 => intro _; rfl))
    | (refine' eb_or (b := false) ?k1 ?k2 ?k3; (case k1 => walk_at "eb"); (case k2 => intro _; walk_at "eb"); (case k3 => intro z; cases z)))
  | ((with_reducible show EB _ (tAnd _ _) _ _); first
    | (refine' eb_and (b := false) ?k1 ?k2 ?k3; (case k1 => walk_at "eb"); (case k2 => intro z; cases z); (case k3 => intro _; rfl))
    | (refine' eb_and (b := true) ?k1 ?k2 ?k3; (case k1 => walk_at "eb"); (case k2 => intro _; walk_at "eb"); (case k3 => intro z; cases z)))
  | ((with_reducible show EB _ (tNot _) _ _); first | (refine' eb_not (b := true) ?k1 rfl; (case k1 => walk_at "eb")) | (refine' eb_not (b := false) ?k1 rfl; (case k1 => walk_at "eb")))
  | ((with_reducible show EB _ (tB _) _ _); refine' eb_val ?k1; (case k1 => walk_at "ev")))
local macro_rules | `(tactic| walk_at "rd") => `(tactic| first
  | ((with_reducible show RD _ (tRet _) _ _); refine' rd_ret ?k1; (case k1 => walk_at "ev"))
  | ((with_reducible show RD _ (tSeq (tIfS _ _ tNext) _) _ _); (first
    | ((with_reducible refine' rd_skip ?k1 ?k2); (case k1 => walk_at "eb"))
    | ((with_reducible refine' rd_take ?k1 ?k2); (case k1 => walk_at "eb"))); (walk_at "rd"))
  | ((with_reducible show RD _ (tIfS _ _ _) _ _); (first
    | ((with_reducible refine' rd_yes ?k1 ?k2); (case k1 => walk_at "eb"))
    | ((with_reducible refine' rd_no ?k1 ?k2); (case k1 => walk_at "eb"))); (walk_at "rd"))
  | ((with_reducible show RD _ (tSeq _ _) _ _); (with_reducible refine' rd_sn ?k1 ?k2); (case k1 => walk_at "nd"); (case k2 => walk_at "rd")))
local macro_rules | `(tactic| walk_at "nd") => `(tactic| first
  | ((with_reducible show ND _ tNext _ _); exact nd_next)
  | ((with_reducible show ND _ (tAsg _ _) _ _); refine' nd_asg ?k1; (case k1 => walk_at "ev"))
  | ((with_reducible show ND _ (tIfS _ _ _) _ _); (first
    | ((with_reducible refine' nd_yes ?k1 ?k2); (case k1 => walk_at "eb"))
    | ((with_reducible refine' nd_no ?k1 ?k2); (case k1 => walk_at "eb"))); (walk_at "nd"))
  | ((with_reducible show ND _ (tSeq _ _) _ _); (with_reducible refine' nd_sn ?k1 ?k2); (case k1 => walk_at "nd"); (case k2 => walk_at "nd")))
local macro_rules | `(tactic| walk_at "cl") => `(tactic| first | assumption | skip)
section
variable {P : Program} {w : World} {K : PySem.W.Frag} {mg : Str → Option Value} {base : Heap}
/-! ### Machine() -/
def spMach (K : PySem.W.Frag) : Sp := fun vs H Q _ => ∃ p dx c Hb, vs = [.ref p, .int c] ∧ H p = some (.ins (CM K) dx []) ∧ Ex Hb H ∧ Hb p = none ∧ ∀ H', MW K Hb p (start c) H' → Q .non H'
theorem ok_Machine (T : Tx w K mg) : C8.Mak P w K mg base 1 "Machine" (CM K) (spMach K) [] := by
  refine mk_Machine_init T fun fd F => F.ok sc_Machine_init (fun vs H Q E h => ?_) fun cdv A outer s H vs Q E hr h => ?_
  · obtain ⟨p, dx, c, Hb, rfl, _⟩ := h
    rfl
  · obtain ⟨p, dx, c, Hb, rfl, hp, eb, nb, q⟩ := h
    refine ⟨_, PSs.nox (pss_cons (ps_fld (pv 0) (pv 1) rfl)
  (pss_cons (ps_fld (pv 0) (pe_lst pa_nil) rfl)
  (pss_cons (ps_fld (pv 0) (pe_lst pa_nil) rfl)
  (pss_cons (ps_fld (pv 0) pe_int rfl)
  (pss_cons (ps_fld (pv 0) pe_int rfl)
  (pss_cons (ps_fld (pv 0) pe_int rfl)
  (pss_one (ps_fld (pv 0) (pe_lst (pa_cons pe_int (pa_cons pe_int (pa_cons pe_int pa_nil)))) rfl)))))))), ?_⟩
    refine ⟨_, rfl, _, rfl, p, _, dx, [], rfl, hp, cl_Machine T, na_Machine_calls T, (by show 0 < 1000; decide), ?_⟩
    refine ⟨Nat.zero_le _, fun pl npl => ?_⟩
    have p1 : p ≠ pl := fun z => by subst z; rw [upd_same] at npl; cases npl
    refine ⟨_, rfl, p, _, dx, _, rfl, (upd_ne p1).trans upd_same, cl_Machine T, na_Machine_prints T, (by show 1 < 1000; decide), ?_⟩
    refine ⟨Nat.zero_le _, fun sl nsl => ?_⟩
    have p2 : p ≠ sl := fun z => by subst z; rw [upd_same] at nsl; cases nsl
    have q2 : pl ≠ sl := fun z => by subst z; rw [upd_ne p1.symm, upd_same] at nsl; cases nsl
    refine ⟨_, rfl, p, _, dx, _, rfl, (upd_ne p2).trans upd_same, cl_Machine T, na_Machine_stack T, (by show 2 < 1000; decide), ?_⟩
    refine ⟨_, rfl, p, _, dx, _, rfl, upd_same, cl_Machine T, na_Machine_waiting T, (by show 3 < 1000; decide), ?_⟩
    refine ⟨_, rfl, p, _, dx, _, rfl, upd_same, cl_Machine T, na_Machine_pending T, (by show 4 < 1000; decide), ?_⟩
    refine ⟨_, rfl, p, _, dx, _, rfl, upd_same, cl_Machine T, na_Machine_cells T, (by show 5 < 1000; decide), ?_⟩
    refine ⟨(by show 3 ≤ sizeLine; decide), fun ml nml => ?_⟩
    have p3 : p ≠ ml := fun z => by subst z; rw [upd_same] at nml; cases nml
    have q3 : pl ≠ ml := fun z => by subst z; simp only [upd_ne p1.symm, upd_ne q2, upd_same] at nml; cases nml
    have q4 : sl ≠ ml := fun z => by subst z; simp only [upd_ne p2.symm, upd_same] at nml; cases nml
    refine ⟨_, rfl, p, _, dx, _, rfl, (upd_ne p3).trans upd_same, cl_Machine T, na_Machine_most T, (by show 6 < 1000; decide), ?_⟩
    have npl' : H pl = none := by rw [upd_ne p1.symm] at npl; exact npl
    have nsl' : H sl = none := by simp only [upd_ne p2.symm, upd_ne q2.symm] at nsl; exact nsl
    have nml' : H ml = none := by simp only [upd_ne p3.symm, upd_ne q3.symm, upd_ne q4.symm] at nml; exact nml
    have b1 : Hb sl = none := fresh_back eb nsl'
    refine q _ ⟨dx, pl, sl, ml, ?_⟩
    have e0 : (mfs (start c) pl sl ml) = putF "most" (.ref ml) (putF "cells" (.int 0) (putF "pending" (.int 0) (putF "waiting" (.int 0) (putF "stack" (.ref sl) (putF "prints" (.ref pl) (putF "calls" (.int c) [])))))) := by kernel_rfl
    refine ⟨by rw [upd_same, e0], ?_, ⟨[], ?_, rfl⟩, ?_, q2.symm, q4, ?_, nb, b1, fun a v h => by cases h⟩
    · simp only [upd_ne p1.symm, upd_ne q2, upd_ne q3, upd_same]
    · simp only [upd_ne p2.symm, upd_ne q4, upd_same]
    · simp only [upd_ne p3.symm, upd_same]
      rfl
    · intro a o ha
      have h1 := eb _ _ ha
      have a1 : a ≠ p := fun z => by subst z; rw [nb] at ha; cases ha
      have a2 : a ≠ pl := fun z => by subst z; rw [npl'] at h1; cases h1
      have a3 : a ≠ sl := fun z => by subst z; rw [nsl'] at h1; cases h1
      have a4 : a ≠ ml := fun z => by subst z; rw [nml'] at h1; cases h1
      simp only [upd_ne a1, upd_ne a2, upd_ne a3, upd_ne a4]
      exact h1
/-! ### run -/
/-- x, y, z = e -/
theorem up3 {H0 : Hp} {m : Addr} {te : TE} {ds : Lo} {st : MS} {Po : D → MS → Prop} {i j k : Nat} (h : EM K H0 m te ds st Po) (hP : ∀ d s, Po d s → ∃ a b c, d = .t [a, b, c]) (D' : L2.Ends) (σ : L2.St) (H : Hp) (L : LoOk K H σ ds) (W : MW K H0 m st H)
    (q : ∀ σ' H' a b c st', Po (.t [a, b, c]) st' → Tm K H H' → MW K H0 m st' H' → LoOk K H' σ' (((ds.set i (some a)).set j (some b)).set k (some c)) → D'.nx σ' H') :
    tAsg te (gTup K 3 (gCons (gName i) (gCons (gName j) (gCons (gName k) gNil)))) D' σ H :=
  h σ H L W _ fun v H' d st' p tm W' r => by
    obtain ⟨a, b, c, rfl⟩ := hP d st' p
    obtain ⟨t, xs, rfl, ht, hr⟩ := r
    obtain ⟨x, r1, rfl, rx, y, r2, rfl, ry, z, r3, rfl, rz, e⟩ := hr
    have e' : r3 = [] := e
    subst e'
    exact ⟨t, _, rfl, ht, rfl, x, _, rfl, y, _, rfl, z, [], rfl, rfl, q _ H' a b c st' p tm W' ((((L.mono tm).set rx i).set ry j).set rz k)⟩
def cfgLo (m : Addr) : Nx → Lo
  | .ev e en => [some (.r m), none, some (Co.d e), some (En.d en), none]
  | .va v => [some (.r m), none, some .n, none, some (Va.d v)]
def RRun : MS → List D → (D → MS → Prop) → Prop := fun st l Po => ∃ e k Post, l = [Co.d e] ∧ Ends Post k (.ev e .nil) st ∧ Po = fun d s => ∃ v, d = Va.d v ∧ Post v s
theorem frk_ne {f : Fr} (h : ∀ c, f ≠ .ck c) : ∃ x l, f.d = .t (.s x :: l) ∧ decide (x = ("check" : Str)) = false := by
  rcases fr_tag f with ⟨c, rfl⟩ | h2
  · exact absurd rfl (h c)
  · exact h2
theorem ok_run (T : Tx w K mg) : C8.Met P w K mg base 55 (CM K) "run" (spM K RRun) [] := by
  have c_begin := ok_begin (P := P) (base := base) T
  have c_resume := ok_resume (P := P) (base := base) T
  have c_go_on := ok_go_on (P := P) (base := base) T
  have c_remove_pending := ok_remove (P := P) (base := base) T
  have c_done : C8.Cal P w K mg base 51 "done" (spD K RDo) [] := ok_done T
  have nbe : ∀ st pl sl ml, (mfs st pl sl ml).lookup ("begin" : Str) = none := fun _ _ _ _ => by kernel_rfl
  have nre : ∀ st pl sl ml, (mfs st pl sl ml).lookup ("resume" : Str) = none := fun _ _ _ _ => by kernel_rfl
  have ngo : ∀ st pl sl ml, (mfs st pl sl ml).lookup ("go_on" : Str) = none := fun _ _ _ _ => by kernel_rfl
  have nrm : ∀ st pl sl ml, (mfs st pl sl ml).lookup ("remove_pending" : Str) = none := fun _ _ _ _ => by kernel_rfl
  refine mk_Machine_run T fun fd F => ok_mr F sc_Machine_run (fun st l Po h => by obtain ⟨e, k, Po, rfl, _⟩ := h; rfl) fun cdv A outer s H E H0 m st l Po hr h => ?_
  obtain ⟨e, k, Post, rfl, hE, rfl⟩ := h
  refine ⟨_, (pss_cons (ps_par3 (i := 2) (j := 3) (l := 4) rfl sc_Machine_run.nd rfl rfl rfl (by decide) (by decide) (by decide) rfl rfl rfl (pa_cons (pv 1) (pa_cons pe_non (pa_cons pe_non pa_nil))) rfl)
  (pss_one (ps_while PassesOwn.never (pt_val pe_bl) (pss_one (ps_if (pt_cmpR op_notN (pv 2) pe_non (nomark _)) (pss_one (ps_asg (C8.pe_mt c_begin hr (by omega) (pv 0) (pa_cons (pv 2) (pa_cons (pv 3) pa_nil))) (pg_tup rfl (pgs_cons (pg_name (i := 2) sc_Machine_run.nd rfl (Or.inl rfl)) (pgs_cons (pg_name (i := 3) sc_Machine_run.nd rfl (Or.inl rfl)) (pgs_cons (pg_name (i := 4) sc_Machine_run.nd rfl (Or.inl rfl)) pgs_nil)))))) (pss_one (ps_if (pt_not (pt_truth (pe_fld (pv 0) rfl) (by intro _; rfl))) (pss_one (ps_ret (pv 4))) (pss_one (ps_if (pt_cmpR op_eq (pe_ix ix_tup (pe_ix ix_list (pe_fld (pv 0) rfl) (pe_un un_neg pe_int) (fun _ _ => rfl)) pe_int (fun _ _ => rfl)) pe_str (nomark _)) (pss_one (ps_set (i := 4) sc_Machine_run.nd rfl (Or.inl rfl) (C8.pe_c c_done hr (by omega) rfl (pa_cons (C8.pe_mt0 c_remove_pending hr (by omega) (pv 0)) (pa_cons (pv 4) pa_nil))))) (pss_one (ps_asg (C8.pe_mt c_resume hr (by omega) (pv 0) (pa_cons (C8.pe_mt0 c_go_on hr (by omega) (pv 0)) (pa_cons (pv 4) pa_nil))) (pg_tup rfl (pgs_cons (pg_name (i := 2) sc_Machine_run.nd rfl (Or.inl rfl)) (pgs_cons (pg_name (i := 3) sc_Machine_run.nd rfl (Or.inl rfl)) (pgs_cons (pg_name (i := 4) sc_Machine_run.nd rfl (Or.inl rfl)) pgs_nil))))))))))))))), ?_⟩
  intro De σ H L W q
  obtain ⟨v0, σ, rfl, r0, La⟩ := loS L
  have r0' : v0 = .ref m := r0
  subst r0'
  obtain ⟨v1, σ, rfl, r1, Lb⟩ := loS La
  obtain ⟨x2, σ, rfl, Lc⟩ := loN Lb
  obtain ⟨x3, σ, rfl, Ld⟩ := loN Lc
  obtain ⟨x4, σ, rfl, Le⟩ := loN Ld
  obtain rfl := lo0 Le
  refine ⟨v1, rfl, v1, .non, .non, rfl, ?_⟩
  refine ⟨fun n σ' H' => ∃ c st', LoOk K H' σ' (cfgLo m c) ∧ MW K H0 m st' H' ∧ Tm K H H' ∧ Ends Post n c st', ⟨k, .ev e .nil, st, ⟨rfl, r1, rfl, trivial⟩, W, Tm.refl, hE⟩, ?_⟩
  rintro n σ' H' ⟨c, st', L', W', tm, hE⟩
  refine ⟨true, rfl, ?_⟩
  cases n with
  | zero => exact hE.elim
  | succ n =>
  obtain ⟨hz, hE'⟩ := ends_step hE
  refine ⟨fun σ2 H2 => ∃ c st', LoOk K H2 σ2 (cfgLo m c) ∧ MW K H0 m st' H2 ∧ Tm K H H2 ∧ Ends Post n c st', fun σ2 H2 h => ⟨n, Nat.lt_succ_self n, h⟩, ?_⟩
  cases c with
  | ev e en =>
    -- current is not None
    cases hb : begin e en st' with
    | none => rw [show step0 (.ev e en) st' = ofO (begin e en st') from rfl, hb] at hE'; exact hE'.elim
    | some qq =>
      obtain ⟨c1, st1⟩ := qq
      rw [show step0 (.ev e en) st' = ofO (begin e en st') from rfl, hb] at hE'
      have ne : ∃ l, Co.d e = .t l := by cases e <;> exact ⟨_, rfl⟩
      obtain ⟨l, hl⟩ := ne
      refine (eb_notNt (l := l) (ds := cfgLo m (.ev e en)) (ed_var (i := 2) (by rw [← hl]; rfl))) σ' H' L' _ fun H2 e2 => iteT ?_
      refine up3 (i := 2) (j := 3) (k := 4) (em_meth (i := 0) rfl (ems_ed (es_cons (ed_var (i := 2) rfl) (es_cons (ed_var (i := 3) rfl) es_nil))) ⟨e, en, c1, st1, rfl, hb, by omega, rfl⟩ nbe) (fun d s h => by obtain ⟨rfl, rfl⟩ := h; cases c1 <;> exact ⟨_, _, _, rfl⟩) _ _ H2 (L'.mono (Tm.ex e2)) (W'.grow e2) fun σ3 H3 a b c st3 p tm3 W3 L3 => ?_
      obtain ⟨p1, rfl⟩ := p
      refine ⟨c1, st3, ?_, W3, (tm.trans (Tm.ex e2)).trans tm3, hE'⟩
      cases c1 with
      | ev e1 en1 =>
        cases p1
        exact LoOk.forget (j := 4) (d := .n) rfl L3
      | va u =>
        cases p1
        exact LoOk.forget (j := 3) (d := .n) rfl L3
  | va v =>
    refine (eb_notN (ds := cfgLo m (.va v)) (ed_var (i := 2) rfl)) σ' H' L' _ fun H2 e2 => iteF ?_
    have L2' := L'.mono (Tm.ex e2)
    have W2' := W'.grow e2
    cases hk : st'.stk with
    | nil =>
      have hE2 : Post v st' := by
        rw [step0_nil hk] at hE'
        exact hE'
      refine (bm_not (bm_stack T (i := 0) rfl (b := false) (by rw [hk] <;> rfl)) rfl) σ' H2 L2' W2' _ fun H3 tm3 W3 => iteT ?_
      obtain ⟨x, hx, rx⟩ := (L2'.mono tm3).get (i := 4) (d := Va.d v) rfl
      exact ⟨x, hx, q x H3 _ st' ⟨v, rfl, hE2⟩ ((tm.trans (Tm.ex e2)).trans tm3) W3 rx⟩
    | cons f r =>
      refine (bm_not (bm_stack T (i := 0) rfl (b := true) (by rw [hk] <;> rfl)) rfl) σ' H2 L2' W2' _ fun H3 tm3 W3 => iteF ?_
      have L3 := L2'.mono tm3
      by_cases hf : ∃ c, f = .ck c
      · obtain ⟨c0, rfl⟩ := hf
        rw [step0_ck hk] at hE'
        cases hr1 : remP st' with
        | none => rw [hr1] at hE'; exact hE'.elim
        | some qq =>
          obtain ⟨c1, st1⟩ := qq
          rw [hr1] at hE'
          cases hd : done c1 v with
          | none => rw [show (some (c1, st1)).bind (fun q => (done q.1 v).map fun u => (Nx.va u, q.2)) = (done c1 v).map fun u => (Nx.va u, st1) from rfl, hd] at hE'; exact hE'.elim
          | some u =>
            rw [show (some (c1, st1)).bind (fun q => (done q.1 v).map fun u => (Nx.va u, q.2)) = (done c1 v).map fun u => (Nx.va u, st1) from rfl, hd] at hE'
            have q1 : RDo [Ck.d c1, Va.d v] (Va.d u) := ⟨c1, v, u, rfl, hd, rfl⟩
            refine (bm_eqS (x := "check") (b := true) (em_ix (l := [.s "check", Ck.d c0]) (em_top T (i := 0) (fr := .ck c0) (rest := r) rfl hk) (j := 0) rfl) (by decide +kernel)) σ' H3 L3 W3 _ fun H4 tm4 W4 => iteT ?_
            refine (nm_asg (i := 4) (em_call (ems_cons (em_meth (i := 0) rfl ems_nil ⟨c1, st1, rfl, hr1, rfl⟩ nrm) (ems_cons (em_ed (ed_var (i := 4) rfl)) ems_nil)) q1)) _ σ' H4 (L3.mono tm4) W4 fun σ5 H5 tm5 W5 L5 => ?_
            exact ⟨.va u, st1, L5, W5, (((tm.trans (Tm.ex e2)).trans tm3).trans tm4).trans tm5, hE'⟩
      · obtain ⟨x, l, hl, hx⟩ := frk_ne (f := f) fun c z => hf ⟨c, z⟩
        rw [step0_fr hk fun c z => hf ⟨c, z⟩] at hE'
        refine (bm_eqS (x := x) (b := false) (em_ix (l := .s x :: l) (by rw [← hl]; exact em_top T (i := 0) (fr := f) (rest := r) rfl hk) (j := 0) rfl) hx) σ' H3 L3 W3 _ fun H4 tm4 W4 => iteF ?_
        have hz2 : r.length ≤ 960 := by rw [hk] at hz; simp only [List.length_cons] at hz; omega
        have args : EMs K H0 m _ (cfgLo m (.va v)) st' [Fr.d f, Va.d v] { st' with stk := r, wt := st'.wt - 1 } := ems_cons (em_meth (R := RGo) (name := "go_on") (i := 0) (E := C8.E0) rfl ems_nil ⟨f, r, rfl, hk, rfl⟩ ngo) (ems_cons (em_ed (ed_var (i := 4) rfl)) ems_nil)
        have tmA := ((tm.trans (Tm.ex e2)).trans tm3).trans tm4
        cases hrs : resume f v { st' with stk := r, wt := st'.wt - 1 } with
        | no => rw [hrs] at hE'; exact hE'.elim
        | fin u s1 => exact absurd hrs (by
            cases f with
            | ck c => exact absurd ⟨_, rfl⟩ hf
            | sec h u => intro z; have z' : ofO (finish h u v { st' with stk := r, wt := st'.wt - 1 }) = _ := z; revert z'; cases finish h u v { st' with stk := r, wt := st'.wt - 1 } <;> intro z' <;> cases z'
            | opd b u => intro z; have z' : ofO ((oper b u v).map fun z => (Nx.va z, _)) = _ := z; revert z'; cases oper b u v <;> intro z' <;> cases z'
            | co e en => cases e <;> cases v <;> intro z <;> (first | (cases z; done) | (rename_i a; have z' : ofO ((st'.sto a).map fun z => (Nx.va z, _)) = _ := z; revert z'; cases st'.sto a <;> intro z' <;> cases z')))
        | nx c1 st1 =>
          rw [hrs] at hE'
          refine up3 (i := 2) (j := 3) (k := 4) (em_meth (i := 0) rfl args ⟨f, v, rfl, hz2, .inl ⟨c1, st1, hrs, rfl⟩⟩ nre) (fun d s h => by obtain ⟨rfl, rfl⟩ := h; cases c1 <;> exact ⟨_, _, _, rfl⟩) _ _ H4 (L3.mono tm4) W4 fun σ5 H5 a b c st5 p tm5 W5 L5 => ?_
          obtain ⟨p1, rfl⟩ := p
          refine ⟨c1, st5, ?_, W5, tmA.trans tm5, hE'⟩
          cases c1 with
          | ev e1 en1 =>
            cases p1
            exact LoOk.forget (j := 4) (d := .n) rfl L5
          | va u =>
            cases p1
            exact LoOk.forget (j := 3) (d := .n) rfl L5
        | al u st1 =>
          rw [hrs] at hE'
          refine up3 (i := 2) (j := 3) (k := 4) (em_meth (i := 0) rfl args ⟨f, v, rfl, hz2, .inr ⟨u, st1, hrs, rfl⟩⟩ nre) (fun d s h => by obtain ⟨a, _, rfl, _⟩ := h; exact ⟨_, _, _, rfl⟩) _ _ H4 (L3.mono tm4) W4 fun σ5 H5 a b c st5 p tm5 W5 L5 => ?_
          obtain ⟨x, p0, p1, rfl⟩ := p
          cases p1
          exact ⟨.va (.bx x), _, LoOk.forget (j := 3) (d := .n) rfl L5, W5, tmA.trans tm5, hE' x p0⟩
end
end Hn
end

/- HnW11 -/
section
set_option Elab.async false
set_option linter.all false
set_option maxRecDepth 100000
set_option maxHeartbeats 4000000
namespace Hn
open PySem PySem.Spec PyProof.Rows L2 Evl
local macro_rules | `(tactic| walk_at "ev") => `(tactic| first
  | ((with_reducible show ED _ (tVar _) _ _); exact ed_var rfl)
  | ((with_reducible show ED _ (tC _) _ _); first | exact ed_s | exact ed_i | exact ed_b | exact ed_n | exact ed_c (by assumption))
  | ((with_reducible show ED _ (tOp (rIxT _) _ (tC (V.int 0))) _ _); refine' ed_ix0 ?k1 ?k2; (case k1 => walk_at "ev"); (case k2 => rfl))
  | ((with_reducible show ED _ (tOp (rIxT _) _ (tC (V.int 1))) _ _); refine' ed_ix1 ?k1 ?k2; (case k1 => walk_at "ev"); (case k2 => rfl))
  | ((with_reducible show ED _ (tOp (rIxT _) _ (tC (V.int 2))) _ _); refine' ed_ix2 ?k1 ?k2; (case k1 => walk_at "ev"); (case k2 => rfl))
  | ((with_reducible show ED _ (tOp (rIxT _) _ (tC (V.int 3))) _ _); refine' ed_ix3 ?k1 ?k2; (case k1 => walk_at "ev"); (case k2 => rfl))
  | ((with_reducible show ED _ (tOp (rIxT _) _ (tC (V.int 4))) _ _); refine' ed_ix4 ?k1 ?k2; (case k1 => walk_at "ev"); (case k2 => rfl))
  | ((with_reducible show ED _ (tOp (rIxT _) _ (tC (V.int 5))) _ _); refine' ed_ix5 ?k1 ?k2; (case k1 => walk_at "ev"); (case k2 => rfl))
  | ((with_reducible show ED _ (tOp (rIxT _) _ (tVar _)) _ _); first
    | (refine' ed_ixE (j := 1) ?k1 ?k2 ?k3 ?k4; (case k1 => walk_at "ev"); (case k2 => walk_at "ev"); (case k3 => rfl); (case k4 => first | rfl | decide))
    | (refine' ed_ixE (j := 2) ?k1 ?k2 ?k3 ?k4; (case k1 => walk_at "ev"); (case k2 => walk_at "ev"); (case k3 => rfl); (case k4 => first | rfl | decide)))
  | ((with_reducible show ED _ (tCB _ (tCons _ tNil)) _ _); refine' ed_len ?k1 ?k2; (case k1 => walk_at "ev"); (case k2 => rfl))
  | ((with_reducible show ED _ (tTup _) _ _); refine' ed_tup ?k1 ?k2; (case k1 => walk_at "es"); (case k2 => exact Nat.le_of_ble_eq_true rfl))
  | ((with_reducible show ED _ (tCall _ _ _ _) _ _); refine' ed_call ?k1 ?k2; (case k1 => walk_at "es"); (case k2 => walk_at "cl"))
  | ((with_reducible show ED _ (tCallN _ _ _ _ _ _ _) _ _); refine' ed_callK ?k1 ?k2 ?k3 ?k4 ?k5; (case k1 => walk_at "es"); (case k2 => walk_at "es"); (case k3 => walk_at "cl"); (case k4 => rfl); (case k5 => rfl))
  | ((with_reducible show ED _ (tOp (rI0 _) _ _) _ _); first
    | (refine' ed_add ?k1 ?k2; (case k1 => walk_at "ev"); (case k2 => walk_at "ev"))
    | (refine' ed_sub ?k1 ?k2; (case k1 => walk_at "ev"); (case k2 => walk_at "ev"))
    | (refine' ed_lt ?k1 ?k2; (case k1 => walk_at "ev"); (case k2 => walk_at "ev"))))
local macro_rules | `(tactic| walk_at "es") => `(tactic| first
  | ((with_reducible show EDs _ tNil _ _); exact es_nil)
  | ((with_reducible show EDs _ (tCons _ _) _ _); refine' es_cons ?k1 ?k2; (case k1 => walk_at "ev"); (case k2 => walk_at "es")))
local macro_rules | `(tactic| walk_at "eb") => `(tactic| first
  | ((with_reducible show EB _ (tTest (tOp rEq _ _)) _ _); refine' eb_eqS ?k1 ?k2 ?k3; (case k1 => walk_at "ev"); (case k2 => walk_at "ev"); (case k3 => first | decide +kernel | assumption))
  | ((with_reducible show EB _ (tTest (tOp rNe _ _)) _ _); refine' eb_neS ?k1 ?k2 ?k3; (case k1 => walk_at "ev"); (case k2 => walk_at "ev"); (case k3 => first | decide +kernel | assumption))
  | ((with_reducible show EB _ (tTest (tOp (rEqD _) _ _)) _ _); first
    | (refine' eb_ck ?k1 ?k2 ?k3 ?k4; (case k1 => walk_at "ev"); (case k2 => walk_at "ev"); (case k3 => first | rfl | decide +kernel | assumption); (case k4 => first | assumption | decide +kernel | omega))
    | (refine' eb_tyA ?k1 ?k2 ?k3 ?k4; (case k1 => walk_at "ev"); (case k2 => walk_at "ev"); (case k3 => first | rfl | decide +kernel | assumption); (case k4 => first | assumption | decide +kernel | omega))
    | (refine' eb_ty ?k1 ?k2 ?k3 ?k4 ?k5; (case k1 => walk_at "ev"); (case k2 => walk_at "ev"); (case k3 => first | assumption | rfl); (case k4 => first | assumption | decide +kernel | omega); (case k5 => first | assumption | decide +kernel | omega)))
  | ((with_reducible show EB _ (tTest (tOp (rIn _ _) _ _)) _ _); refine' eb_in ?k1 ?k2 ?k3; (case k1 => walk_at "ev"); (case k2 => walk_at "ev"); (case k3 => decide +kernel))
  | ((with_reducible show EB _ (tOr _ _) _ _); first
    | (refine' eb_or (b := true) ?k1 ?k2 ?k3; (case k1 => walk_at "eb"); (case k2 => intro z; cases z); (case k3 => intro _; rfl))
    | (refine' eb_or (b := false) ?k1 ?k2 ?k3; (case k1 => walk_at "eb"); (case k2 => intro _; walk_at "eb"); (case k3 => intro z; cases z)))
  | ((with_reducible show EB _ (tAnd _ _) _ _); first
    | (refine' eb_and (b := false) ?k1 ?k2 ?k3; (case k1 => walk_at "eb"); (case k2 => intro z; cases z); (case k3 => intro _; rfl))
    | (refine' eb_and (b := true) ?k1 ?k2 ?k3; (case k1 => walk_at "eb"); (case k2 => intro _; walk_at "eb"); (case k3 => intro z; cases z)))
  | ((with_reducible show EB _ (tNot _) _ _); first | (refine' eb_not (b := true) ?k1 rfl; (case k1 => walk_at "eb")) | (refine' eb_not (b := false) ?k1 rfl; (case k1 => walk_at "eb")))
  | ((with_reducible show EB _ (tB _) _ _); refine' eb_val ?k1; (case k1 => walk_at "ev")))
local macro_rules | `(tactic| walk_at "rd") => `(tactic| first
  | ((with_reducible show RD _ (tRet _) _ _); refine' rd_ret ?k1; (case k1 => walk_at "ev"))
  | ((with_reducible show RD _ (tSeq (tIfS _ _ tNext) _) _ _); (first
    | ((with_reducible refine' rd_skip ?k1 ?k2); (case k1 => walk_at "eb"))
    | ((with_reducible refine' rd_take ?k1 ?k2); (case k1 => walk_at "eb"))); (walk_at "rd"))
  | ((with_reducible show RD _ (tIfS _ _ _) _ _); (first
    | ((with_reducible refine' rd_yes ?k1 ?k2); (case k1 => walk_at "eb"))
    | ((with_reducible refine' rd_no ?k1 ?k2); (case k1 => walk_at "eb"))); (walk_at "rd"))
  | ((with_reducible show RD _ (tSeq _ _) _ _); (with_reducible refine' rd_sn ?k1 ?k2); (case k1 => walk_at "nd"); (case k2 => walk_at "rd")))
local macro_rules | `(tactic| walk_at "nd") => `(tactic| first
  | ((with_reducible show ND _ tNext _ _); exact nd_next)
  | ((with_reducible show ND _ (tAsg _ _) _ _); refine' nd_asg ?k1; (case k1 => walk_at "ev"))
  | ((with_reducible show ND _ (tIfS _ _ _) _ _); (first
    | ((with_reducible refine' nd_yes ?k1 ?k2); (case k1 => walk_at "eb"))
    | ((with_reducible refine' nd_no ?k1 ?k2); (case k1 => walk_at "eb"))); (walk_at "nd"))
  | ((with_reducible show ND _ (tSeq _ _) _ _); (with_reducible refine' nd_sn ?k1 ?k2); (case k1 => walk_at "nd"); (case k2 => walk_at "nd")))
local macro_rules | `(tactic| walk_at "cl") => `(tactic| first | assumption | skip)
section
variable {P : Program} {w : World} {K : PySem.W.Frag} {mg : Str → Option Value} {base : Heap}
/-- what run_measured hands back -/
def toldD (u : Va) (s : MS) : D := .t [.t [], .t [.s "value", shV u], .t [.i s.m0, .i s.m1, .i s.m2]]
def spRM (K : PySem.W.Frag) : Sp := fun vs H Q _ => ∃ e c k Post, Reps K H [Co.d e, .i c] vs ∧ Ends Post k (.ev e .nil) (start c) ∧ ∀ v H' u s, Post u s → Ex H H' → Rep K H' (toldD u s) v → Q v H'
theorem ok_run_measured (T : Tx w K mg) : C8.Cal P w K mg base 56 "run_measured" (spRM K) [] := by
  have c_Machine := ok_Machine (P := P) (base := base) T
  have c_run := ok_run (P := P) (base := base) T
  have c_shape := ok_shape (P := P) (base := base) T
  have nru : ∀ st pl sl ml, (mfs st pl sl ml).lookup ("run" : Str) = none := fun _ _ _ _ => by kernel_rfl
  refine mk_run_measured T fun fd F => F.ok sc_run_measured (fun vs H Q E h => ?_) fun cdv A outer s H vs Q E hr h => ?_
  · obtain ⟨e, c, k, Post, h1, _⟩ := h
    rw [h1.len] <;> rfl
  · obtain ⟨e, c, k, Post, h1, hE, q⟩ := h
    obtain ⟨v0, r0, rfl, re, v1, r1, rfl, rc, e1⟩ := h1
    have e1' : r1 = [] := e1
    subst e1'
    have rc' : v1 = .int c := rc
    subst rc'
    refine ⟨_, PSs.nox (pss_cons (ps_set (i := 2) sc_run_measured.nd rfl (Or.inl rfl) (C8.pe_mk c_Machine hr (by omega) rfl (pa_cons (pv 1) pa_nil)))
  (pss_cons (ps_try_thru0 (pss_one (ps_set (i := 3) sc_run_measured.nd rfl (Or.inl rfl) (pe_tup (pa_cons pe_str (pa_cons (C8.pe_c c_shape hr (by omega) rfl (pa_cons (C8.pe_mt c_run hr (by omega) (pv 2) (pa_cons (pv 0) pa_nil)) pa_nil)) pa_nil))))))
  (pss_one (ps_ret (pe_tup (pa_cons (pe_callTy call_tuple_of (by rfl) (fr_tuple T) (by decide +kernel) (pa_cons (pe_fld (pv 2) rfl) pa_nil)) (pa_cons (pv 3) (pa_cons (pe_callTy call_tuple_of (by rfl) (fr_tuple T) (by decide +kernel) (pa_cons (pe_fld (pv 2) rfl) pa_nil)) pa_nil)))))))), ?_⟩
    -- machine = Machine(calls)
    refine ⟨_, rfl, fun x dx nx ndx nex => ?_⟩
    have nxd : upd H dx (.own x) x = none := by rw [upd_ne (fun z => nex z.symm)]; exact nx
    have ee : Ex H (upd (upd H dx (.own x)) x (.ins (CM K) dx [])) := (Ex.new ndx).trans (Ex.new nxd)
    refine ⟨x, dx, c, H, by rw [List.append_nil], upd_same, ee, nx, fun H1 W1 => ⟨rfl, ?_⟩⟩
    -- machine.run(core)
    have e01 : Ex H H1 := by obtain ⟨_, _, _, _, A⟩ := W1; exact A.ex
    have L1 : LoOk K H1 [some v0, some (.int c), some (.ref x), none, none] [some (Co.d e), none, some (.r x), none, none] := ⟨re.ex e01, rfl, trivial⟩
    have hv : EM K H x (tTup (tCons (tC (.str "value")) (tCons (tCall (spD K RSh) [] C8.E0 (tCons (tMeth (CM K) "run" (spM K RRun) [] C8.E0 (tVar 2) (tCons (tVar 0) tNil)) tNil)) tNil))) [some (Co.d e), none, some (.r x), none, none] (start c) (fun d s => ∃ u, d = .t [.s "value", shV u] ∧ Post u s) := fun σ H2 L2 W2 Q2 q2 => by
      refine (em_meth (i := 2) (E := C8.E0) rfl (ems_ed (es_cons (ed_var (i := 0) rfl) es_nil)) ⟨e, k, Post, rfl, hE, rfl⟩ nru) σ H2 L2 W2 _ fun v H3 d st3 p tm3 W3 r3 => ?_
      obtain ⟨u, rfl, hp⟩ := p
      refine ⟨[Va.d u], shV u, .cons r3 .nil, ⟨u, rfl, rfl⟩, fun v4 H4 e4 r4 => ?_⟩
      refine ⟨(by show 2 ≤ sizeLine; decide), fun t nt => ?_⟩
      exact q2 _ _ _ st3 ⟨u, rfl, hp⟩ ((tm3.trans (Tm.ex e4)).trans (tm_new nt)) ((W3.grow e4).grow (Ex.new nt)) (rep_tup upd_same (.cons rfl (.cons (r4.mono (tm_new nt)) .nil)))
    dsimp only [gName, tSeq, tAsg]
    refine hv _ H1 L1 W1 _ fun v2 H2 d st2 p tm2 W2 r2 => ?_
    obtain ⟨u, rfl, hp⟩ := p
    obtain ⟨d0, pl, sl, ml, A⟩ := W2
    -- return (tuple(machine.prints), end, tuple(machine.most))
    refine ⟨_, rfl, x, _, d0, _, _, rfl, A.ob, cl_Machine T, na_Machine_prints T, mf_prints st2 pl sl ml, pl, [], rfl, .inl ⟨SqL.of A.pr, fun t nt => ?_⟩⟩
    have e3 : Ex H2 (upd H2 t (.tup [])) := Ex.new nt
    refine ⟨v2, rfl, _, rfl, x, _, d0, _, _, rfl, e3 _ _ A.ob, cl_Machine T, na_Machine_most T, mf_most st2 pl sl ml, ml, _, rfl, .inl ⟨SqL.of (e3 _ _ A.mo), fun t2 nt2 => ?_⟩⟩
    have e4 : Ex (upd H2 t (.tup [])) (upd (upd H2 t (.tup [])) t2 (.tup [.int st2.m0, .int st2.m1, .int st2.m2])) := Ex.new nt2
    refine ⟨(by show 3 ≤ sizeLine; decide), fun t3 nt3 => ?_⟩
    have e5 : Ex (upd (upd H2 t (.tup [])) t2 (.tup [.int st2.m0, .int st2.m1, .int st2.m2])) (upd (upd (upd H2 t (.tup [])) t2 (.tup [.int st2.m0, .int st2.m1, .int st2.m2])) t3 (.tup [.ref t, v2, .ref t2])) := Ex.new nt3
    refine q _ _ u st2 hp (A.ex.trans ((e3.trans e4).trans e5)) (rep_tup upd_same (.cons (rep_tup ((e4.trans e5) _ _ upd_same) .nil) (.cons (r2.ex ((e3.trans e4).trans e5)) (.cons (rep_tup (e5 _ _ upd_same) (.cons rfl (.cons rfl (.cons rfl .nil)))) .nil))))
end
end Hn
end

/- HnW12 -/
section
set_option Elab.async false
set_option linter.all false
set_option maxRecDepth 100000
set_option maxHeartbeats 4000000
namespace Hn
open PySem PySem.Spec PyProof.Rows L2 Evl
local macro_rules | `(tactic| walk_at "ev") => `(tactic| first
  | ((with_reducible show ED _ (tVar _) _ _); exact ed_var rfl)
  | ((with_reducible show ED _ (tC _) _ _); first | exact ed_s | exact ed_i | exact ed_b | exact ed_n | exact ed_c (by assumption))
  | ((with_reducible show ED _ (tOp (rIxT _) _ (tC (V.int 0))) _ _); refine' ed_ix0 ?k1 ?k2; (case k1 => walk_at "ev"); (case k2 => rfl))
  | ((with_reducible show ED _ (tOp (rIxT _) _ (tC (V.int 1))) _ _); refine' ed_ix1 ?k1 ?k2; (case k1 => walk_at "ev"); (case k2 => rfl))
  | ((with_reducible show ED _ (tOp (rIxT _) _ (tC (V.int 2))) _ _); refine' ed_ix2 ?k1 ?k2; (case k1 => walk_at "ev"); (case k2 => rfl))
  | ((with_reducible show ED _ (tOp (rIxT _) _ (tC (V.int 3))) _ _); refine' ed_ix3 ?k1 ?k2; (case k1 => walk_at "ev"); (case k2 => rfl))
  | ((with_reducible show ED _ (tOp (rIxT _) _ (tC (V.int 4))) _ _); refine' ed_ix4 ?k1 ?k2; (case k1 => walk_at "ev"); (case k2 => rfl))
  | ((with_reducible show ED _ (tOp (rIxT _) _ (tC (V.int 5))) _ _); refine' ed_ix5 ?k1 ?k2; (case k1 => walk_at "ev"); (case k2 => rfl))
  | ((with_reducible show ED _ (tOp (rIxT _) _ (tVar _)) _ _); first
    | (refine' ed_ixE (j := 1) ?k1 ?k2 ?k3 ?k4; (case k1 => walk_at "ev"); (case k2 => walk_at "ev"); (case k3 => rfl); (case k4 => first | rfl | decide))
    | (refine' ed_ixE (j := 2) ?k1 ?k2 ?k3 ?k4; (case k1 => walk_at "ev"); (case k2 => walk_at "ev"); (case k3 => rfl); (case k4 => first | rfl | decide)))
  | ((with_reducible show ED _ (tCB _ (tCons _ tNil)) _ _); refine' ed_len ?k1 ?k2; (case k1 => walk_at "ev"); (case k2 => rfl))
  | ((with_reducible show ED _ (tTup _) _ _); refine' ed_tup ?k1 ?k2; (case k1 => walk_at "es"); (case k2 => exact Nat.le_of_ble_eq_true rfl))
  | ((with_reducible show ED _ (tCall _ _ _ _) _ _); refine' ed_call ?k1 ?k2; (case k1 => walk_at "es"); (case k2 => walk_at "cl"))
  | ((with_reducible show ED _ (tCallN _ _ _ _ _ _ _) _ _); refine' ed_callK ?k1 ?k2 ?k3 ?k4 ?k5; (case k1 => walk_at "es"); (case k2 => walk_at "es"); (case k3 => walk_at "cl"); (case k4 => rfl); (case k5 => rfl))
  | ((with_reducible show ED _ (tOp (rI0 _) _ _) _ _); first
    | (refine' ed_add ?k1 ?k2; (case k1 => walk_at "ev"); (case k2 => walk_at "ev"))
    | (refine' ed_sub ?k1 ?k2; (case k1 => walk_at "ev"); (case k2 => walk_at "ev"))
    | (refine' ed_lt ?k1 ?k2; (case k1 => walk_at "ev"); (case k2 => walk_at "ev"))))
local macro_rules | `(tactic| walk_at "es") => `(tactic| first
  | ((with_reducible show EDs _ tNil _ _); exact es_nil)
  | ((with_reducible show EDs _ (tCons _ _) _ _); refine' es_cons ?k1 ?k2; (case k1 => walk_at "ev"); (case k2 => walk_at "es")))
local macro_rules | `(tactic| walk_at "eb") => `(tactic| first
  | ((with_reducible show EB _ (tTest (tOp rEq _ _)) _ _); refine' eb_eqS ?k1 ?k2 ?k3; (case k1 => walk_at "ev"); (case k2 => walk_at "ev"); (case k3 => first | decide +kernel | assumption))
  | ((with_reducible show EB _ (tTest (tOp rNe _ _)) _ _); refine' eb_neS ?k1 ?k2 ?k3; (case k1 => walk_at "ev"); (case k2 => walk_at "ev"); (case k3 => first | decide +kernel | assumption))
  | ((with_reducible show EB _ (tTest (tOp (rEqD _) _ _)) _ _); first
    | (refine' eb_ck ?k1 ?k2 ?k3 ?k4; (case k1 => walk_at "ev"); (case k2 => walk_at "ev"); (case k3 => first | rfl | decide +kernel | assumption); (case k4 => first | assumption | decide +kernel | omega))
    | (refine' eb_tyA ?k1 ?k2 ?k3 ?k4; (case k1 => walk_at "ev"); (case k2 => walk_at "ev"); (case k3 => first | rfl | decide +kernel | assumption); (case k4 => first | assumption | decide +kernel | omega))
    | (refine' eb_ty ?k1 ?k2 ?k3 ?k4 ?k5; (case k1 => walk_at "ev"); (case k2 => walk_at "ev"); (case k3 => first | assumption | rfl); (case k4 => first | assumption | decide +kernel | omega); (case k5 => first | assumption | decide +kernel | omega)))
  | ((with_reducible show EB _ (tTest (tOp (rIn _ _) _ _)) _ _); refine' eb_in ?k1 ?k2 ?k3; (case k1 => walk_at "ev"); (case k2 => walk_at "ev"); (case k3 => decide +kernel))
  | ((with_reducible show EB _ (tOr _ _) _ _); first
    | (refine' eb_or (b := true) ?k1 ?k2 ?k3; (case k1 => walk_at "eb"); (case k2 => intro z; cases z); (case k3 => intro _; rfl))
    | (refine' eb_or (b := false) ?k1 ?k2 ?k3; (case k1 => walk_at "eb"); (case k2 => intro _; walk_at "eb"); (case k3 => intro z; cases z)))
  | ((with_reducible show EB _ (tAnd _ _) _ _); first
    | (refine' eb_and (b := false) ?k1 ?k2 ?k3; (case k1 => walk_at "eb"); (case k2 => intro z; cases z); (case k3 => intro _; rfl))
    | (refine' eb_and (b := true) ?k1 ?k2 ?k3; (case k1 => walk_at "eb"); (case k2 => intro _; walk_at "eb"); (case k3 => intro z; cases z)))
  | ((with_reducible show EB _ (tNot _) _ _); first | (refine' eb_not (b := true) ?k1 rfl; (case k1 => walk_at "eb")) | (refine' eb_not (b := false) ?k1 rfl; (case k1 => walk_at "eb")))
  | ((with_reducible show EB _ (tB _) _ _); refine' eb_val ?k1; (case k1 => walk_at "ev")))
local macro_rules | `(tactic| walk_at "rd") => `(tactic| first
  | ((with_reducible show RD _ (tRet _) _ _); refine' rd_ret ?k1; (case k1 => walk_at "ev"))
  | ((with_reducible show RD _ (tSeq (tIfS _ _ tNext) _) _ _); (first
    | ((with_reducible refine' rd_skip ?k1 ?k2); (case k1 => walk_at "eb"))
    | ((with_reducible refine' rd_take ?k1 ?k2); (case k1 => walk_at "eb"))); (walk_at "rd"))
  | ((with_reducible show RD _ (tIfS _ _ _) _ _); (first
    | ((with_reducible refine' rd_yes ?k1 ?k2); (case k1 => walk_at "eb"))
    | ((with_reducible refine' rd_no ?k1 ?k2); (case k1 => walk_at "eb"))); (walk_at "rd"))
  | ((with_reducible show RD _ (tSeq _ _) _ _); (with_reducible refine' rd_sn ?k1 ?k2); (case k1 => walk_at "nd"); (case k2 => walk_at "rd")))
local macro_rules | `(tactic| walk_at "nd") => `(tactic| first
  | ((with_reducible show ND _ tNext _ _); exact nd_next)
  | ((with_reducible show ND _ (tAsg _ _) _ _); refine' nd_asg ?k1; (case k1 => walk_at "ev"))
  | ((with_reducible show ND _ (tIfS _ _ _) _ _); (first
    | ((with_reducible refine' nd_yes ?k1 ?k2); (case k1 => walk_at "eb"))
    | ((with_reducible refine' nd_no ?k1 ?k2); (case k1 => walk_at "eb"))); (walk_at "nd"))
  | ((with_reducible show ND _ (tSeq _ _) _ _); (with_reducible refine' nd_sn ?k1 ?k2); (case k1 => walk_at "nd"); (case k2 => walk_at "nd")))
local macro_rules | `(tactic| walk_at "cl") => `(tactic| first | assumption | skip)
abbrev CP (K : PySem.W.Frag) : Addr := He.ga K "Part"
def pf (n : Int) (x y : V) : List (Str × V) := [("number", .int n), ("core", x), ("known", y)]
theorem pf_num (n : Int) (x y : V) : (pf n x y).lookup ("number" : Str) = some (V.int n) := by kernel_rfl
theorem pf_core (n : Int) (x y : V) : (pf n x y).lookup ("core" : Str) = some x := by kernel_rfl
theorem pf_known (n : Int) (x y : V) : (pf n x y).lookup ("known" : Str) = some y := by kernel_rfl
theorem pf_fitted (n : Int) (x y : V) : (pf n x y).lookup ("fitted" : Str) = none := by kernel_rfl
/-- a part stands at a -/
def PartAt (K : PySem.W.Frag) (H : Hp) (a : Addr) (p : Pt) : Prop := ∃ dx x y, H a = some (.ins (CP K) dx (pf p.num x y)) ∧ Rep K H (Co.d p.core) x ∧ Rep K H (Ty.d p.known) y
theorem PartAt.grow {K : PySem.W.Frag} {H H' : Hp} {a : Addr} {p : Pt} (h : PartAt K H a p) (e : Ex H H') : PartAt K H' a p := by
  obtain ⟨dx, x, y, h1, h2, h3⟩ := h
  exact ⟨dx, x, y, e _ _ h1, h2.ex e, h3.ex e⟩
/-- a promise that may lean on what is known of the heap -/
def spQ (K : PySem.W.Frag) (R : (Hp → Prop) → List D → D → Prop) : Sp := fun vs H Q _ => ∃ Φ l d, (∀ H H', Φ H → Ex H H' → Φ H') ∧ Φ H ∧ Reps K H l vs ∧ R Φ l d ∧ ∀ v H', Ex H H' → Rep K H' d v → Q v H'
abbrev wF (Φ : Hp → Prop) : Unit → Hp → Prop := fun _ => Φ
section
variable {K : PySem.W.Frag} {S : Type} {Wd : S → Hp → Prop} [Gr Wd] {te ta tb : TE} {tt tu : TT} {t u w : TS} {as ar : TA} {ds ds' ds2 : Lo} {st st1 st2 : S} {P : D → S → Prop} {d e : D} {l : List D} {b c : Bool} {i j : Nat} {w0 : World} {mg : Str → Option Value}
theorem ge_ix0 (h : GE K Wd te ds st (Is (.t l) st1)) (hi : l[0]? = some d) : GE K Wd (tOp (rIxT K) te (tC (.int 0))) ds st (Is d st1) := em_ix h hi
theorem ge_ix1 (h : GE K Wd te ds st (Is (.t l) st1)) (hi : l[1]? = some d) : GE K Wd (tOp (rIxT K) te (tC (.int 1))) ds st (Is d st1) := em_ix h hi
theorem ge_ix2 (h : GE K Wd te ds st (Is (.t l) st1)) (hi : l[2]? = some d) : GE K Wd (tOp (rIxT K) te (tC (.int 2))) ds st (Is d st1) := em_ix h hi
theorem ge_known (T : Tx w0 K mg) {a : Addr} {p : Pt} (h : GE K Wd te ds st (Is (.r a) st1)) (f : ∀ H, Wd st1 H → PartAt K H a p) : GE K Wd (tFld K te "known") ds st (Is (Ty.d p.known) st1) := fun σ H L W Q q => h σ H L W _ fun v H' d' st' k tm W' r => by
  obtain ⟨rfl, rfl⟩ := k
  cases r
  obtain ⟨dx, x, y, h1, h2, h3⟩ := f _ W'
  exact ⟨a, _, dx, _, _, rfl, h1, cl_Part T, na_Part_known T, pf_known _ _ _, q _ _ _ _ ⟨rfl, rfl⟩ tm W' h3⟩
theorem ge_core (T : Tx w0 K mg) {a : Addr} {p : Pt} (h : GE K Wd te ds st (Is (.r a) st1)) (f : ∀ H, Wd st1 H → PartAt K H a p) : GE K Wd (tFld K te "core") ds st (Is (Co.d p.core) st1) := fun σ H L W Q q => h σ H L W _ fun v H' d' st' k tm W' r => by
  obtain ⟨rfl, rfl⟩ := k
  cases r
  obtain ⟨dx, x, y, h1, h2, h3⟩ := f _ W'
  exact ⟨a, _, dx, _, _, rfl, h1, cl_Part T, na_Part_core T, pf_core _ _ _, q _ _ _ _ ⟨rfl, rfl⟩ tm W' h2⟩
theorem ge_num (T : Tx w0 K mg) {a : Addr} {p : Pt} (h : GE K Wd te ds st (Is (.r a) st1)) (f : ∀ H, Wd st1 H → PartAt K H a p) : GE K Wd (tFld K te "number") ds st (Is (.i p.num) st1) := fun σ H L W Q q => h σ H L W _ fun v H' d' st' k tm W' r => by
  obtain ⟨rfl, rfl⟩ := k
  cases r
  obtain ⟨dx, x, y, h1, h2, h3⟩ := f _ W'
  exact ⟨a, _, dx, _, _, rfl, h1, cl_Part T, na_Part_number T, pf_num _ _ _, q _ _ _ _ ⟨rfl, rfl⟩ tm W' rfl⟩
theorem ge_ixL {p a : Addr} {n : Int} {rs : List Addr} (h : GE K Wd te ds st (Is (.r p) st1)) (f : ∀ H, Wd st1 H → H p = some (.lst (rs.map V.ref))) (hi : rs[j]? = some a) (hn : n = (j : Int)) : GE K Wd (tOp (rIxL K) te (tC (.int n))) ds st (Is (.r a) st1) := fun σ H L W Q q => h σ H L W _ fun v H' d' st' k tm W' r => by
  obtain ⟨rfl, rfl⟩ := k
  cases r
  subst hn
  exact ⟨p, _, j, .ref a, rfl, rfl, SqL.of (f _ W'), atI_nat (by rw [List.getElem?_map, hi] <;> rfl), q _ _ _ _ ⟨rfl, rfl⟩ tm W' rfl⟩
theorem ge_ixL0 {p a : Addr} {rs : List Addr} (h : GE K Wd te ds st (Is (.r p) st1)) (f : ∀ H, Wd st1 H → H p = some (.lst (rs.map V.ref))) (hi : rs[0]? = some a) : GE K Wd (tOp (rIxL K) te (tC (.int 0))) ds st (Is (.r a) st1) := ge_ixL h f hi rfl
theorem ge_ixL1 {p a : Addr} {rs : List Addr} (h : GE K Wd te ds st (Is (.r p) st1)) (f : ∀ H, Wd st1 H → H p = some (.lst (rs.map V.ref))) (hi : rs[1]? = some a) : GE K Wd (tOp (rIxL K) te (tC (.int 1))) ds st (Is (.r a) st1) := ge_ixL h f hi rfl
theorem ge_ixL2 {p a : Addr} {rs : List Addr} (h : GE K Wd te ds st (Is (.r p) st1)) (f : ∀ H, Wd st1 H → H p = some (.lst (rs.map V.ref))) (hi : rs[2]? = some a) : GE K Wd (tOp (rIxL K) te (tC (.int 2))) ds st (Is (.r a) st1) := ge_ixL h f hi rfl
theorem ge_q {R : (Hp → Prop) → List D → D → Prop} {E : XK} (h : GEs K Wd as ds st l st1) (hr : R (Wd st1) l d) : GE K Wd (tCall (spQ K R) [] E as) ds st (Is d st1) := fun σ H L W Q q => h σ H L W _ fun vs H' tm W' r =>
  ⟨Wd st1, l, d, fun _ _ w e => Gr.g e w, W', by rw [List.append_nil]; exact r, hr, fun v H2 e2 r2 => q v H2 d st1 ⟨rfl, rfl⟩ (tm.trans (Tm.ex e2)) (Gr.g e2 W') r2⟩
theorem ge_fit {R : (Hp → Prop) → List D → D → Prop} {E : XK} {a : Addr} {p : Pt} (h : GE K Wd te ds st (Is (.r a) st1)) (f : ∀ H, Wd st1 H → PartAt K H a p) (h2 : GEs K Wd as ds st1 l st2) (hr : R (Wd st2) (.r a :: l) d) : GE K Wd (tMeth (CP K) "fitted" (spQ K R) [] E te as) ds st (Is d st2) := fun σ H L W Q q => h σ H L W _ fun v H' d' st' k tm W' r => by
  obtain ⟨rfl, rfl⟩ := k
  cases r
  obtain ⟨dx, x, y, h1, _⟩ := f _ W'
  refine ⟨a, dx, _, rfl, h1, pf_fitted _ _ _, h2 σ H' (L.mono tm) W' _ fun vs H2 tm2 W2 r2 => ?_⟩
  exact ⟨Wd st2, .r a :: l, d, fun _ _ w e => Gr.g e w, W2, by rw [List.append_nil]; exact .cons rfl r2, hr, fun v H3 e3 r3 => q v H3 d st2 ⟨rfl, rfl⟩ ((tm.trans tm2).trans (Tm.ex e3)) (Gr.g e3 W2) r3⟩
theorem gb_eqD (h1 : GE K Wd ta ds st (Is d st1)) (h2 : GE K Wd tb ds st1 (Is e st2)) (f1 : d.flat = true) (f2 : e.flat = true) (p1 : d.py.depth ≤ 64) (p2 : e.py.depth ≤ 64) (hb : PyData.eqv d.py e.py = b) : GB K Wd (tTest (tOp (rEqD K) ta tb)) ds st b st2 := fun σ H L W Q q =>
  h1 σ H L W _ fun v H' d' st' k tm W' r => by
    obtain ⟨rfl, rfl⟩ := k
    refine h2 σ H' (L.mono tm) W' _ fun v2 H2 d2 st3 k2 tm2 W2 r2 => ?_
    obtain ⟨rfl, rfl⟩ := k2
    refine ⟨_, _, dp_of f1 (r.mono tm2), dp_of f2 r2, ?_, ?_, b, by rw [hb], q H2 (tm.trans tm2) W2⟩
    · unfold SeqAt.shaped; rw [canLay_of f1, decide_eq_true p1] <;> rfl
    · unfold SeqAt.shaped; rw [canLay_of f2, decide_eq_true p2] <;> rfl
theorem gb_tyA {A : Ty} (h1 : GE K Wd ta ds st (Is A.d st1)) (h2 : GE K Wd tb ds st1 (Is (tS "any") st2)) (hb : decide (A = .any) = b) (hd : ht A ≤ 60) : GB K Wd (tTest (tOp (rEqD K) ta tb)) ds st b st2 :=
  gb_eqD h1 h2 (Ty.flat A) (by decide +kernel) (by have := Ty.deep A; omega) (by decide +kernel) (by rw [← hb]; exact eqv_ty A .any)
theorem gb_ty {A B : Ty} (h1 : GE K Wd ta ds st (Is A.d st1)) (h2 : GE K Wd tb ds st1 (Is B.d st2)) (hb : decide (A = B) = b) (hd : ht A ≤ 60) (he : ht B ≤ 60) : GB K Wd (tTest (tOp (rEqD K) ta tb)) ds st b st2 :=
  gb_eqD h1 h2 (Ty.flat A) (Ty.flat B) (by have := Ty.deep A; omega) (by have := Ty.deep B; omega) (by rw [← hb]; exact eqv_ty A B)
theorem gb_neS {x y : Str} (h1 : GE K Wd ta ds st (Is (.s x) st1)) (h2 : GE K Wd tb ds st1 (Is (.s y) st2)) (hb : (!decide (x = y)) = b) : GB K Wd (tTest (tOp rNe ta tb)) ds st b st2 := fun σ H L W Q q =>
  h1 σ H L W _ fun v H' d' st' k tm W' r => by
    obtain ⟨rfl, rfl⟩ := k
    refine h2 σ H' (L.mono tm) W' _ fun v2 H2 d2 st3 k2 tm2 W2 r2 => ?_
    obtain ⟨rfl, rfl⟩ := k2
    cases r; cases r2
    refine ⟨rfl, _, rfl, ?_⟩
    have e3 : (!decide (V.str x = V.str y)) = b := by
      rw [← hb]
      by_cases z : x = y
      · subst z
        rw [decide_eq_true rfl, decide_eq_true rfl]
      · rw [decide_eq_false z, decide_eq_false fun k => z (V.str.inj k)]
    rw [e3]
    exact q H2 (tm.trans tm2) W2
theorem gb_val (h : GE K Wd te ds st (Is (.b b) st1)) : GB K Wd (tB te) ds st b st1 := fun σ H L W Q q => h σ H L W _ fun v H' d' st' k tm W' r => by
  obtain ⟨rfl, rfl⟩ := k
  cases r
  exact ⟨b, rfl, q H' tm W'⟩
theorem gn_up2 {x y : D} (h : GE K Wd te ds st (Is (.t [x, y]) st1)) : GN K Wd (tAsg te (gTup K 2 (gCons (gName i) (gCons (gName j) gNil)))) ds st ((ds.set i (some x)).set j (some y)) st1 := fun D' σ H L W q => h σ H L W _ fun v H' d' st' k tm W' r => by
  obtain ⟨rfl, rfl⟩ := k
  obtain ⟨t, xs, rfl, ht, hr⟩ := r
  obtain ⟨x1, r1, rfl, rx, y1, r2, rfl, ry, e⟩ := hr
  have e' : r2 = [] := e
  subst e'
  exact ⟨t, _, rfl, ht, rfl, x1, _, rfl, y1, [], rfl, rfl, q _ H' tm W' (((L.mono tm).set rx i).set ry j)⟩
end
local macro_rules | `(tactic| walk_at "gv") => `(tactic| first
  | (refine' em_ed ?k1; (case k1 => walk_at "ev"))
  | ((with_reducible show GE _ _ (tFld _ _ _) _ _ _); first
    | (refine' ge_known ?kT ?k1 ?k2; (case kT => assumption); (case k1 => walk_at "gv"); (case k2 => assumption))
    | (refine' ge_core ?kT ?k1 ?k2; (case kT => assumption); (case k1 => walk_at "gv"); (case k2 => assumption))
    | (refine' ge_num ?kT ?k1 ?k2; (case kT => assumption); (case k1 => walk_at "gv"); (case k2 => assumption)))
  | ((with_reducible show GE _ _ (tOp (rIxL _) _ (tC (V.int 0))) _ _ _); refine' ge_ixL0 ?k1 ?k2 ?k3; (case k1 => walk_at "gv"); (case k2 => assumption); (case k3 => rfl))
  | ((with_reducible show GE _ _ (tOp (rIxL _) _ (tC (V.int 1))) _ _ _); refine' ge_ixL1 ?k1 ?k2 ?k3; (case k1 => walk_at "gv"); (case k2 => assumption); (case k3 => rfl))
  | ((with_reducible show GE _ _ (tOp (rIxL _) _ (tC (V.int 2))) _ _ _); refine' ge_ixL2 ?k1 ?k2 ?k3; (case k1 => walk_at "gv"); (case k2 => assumption); (case k3 => rfl))
  | ((with_reducible show GE _ _ (tOp (rIxT _) _ (tC (V.int 0))) _ _ _); refine' ge_ix0 ?k1 ?k2; (case k1 => walk_at "gv"); (case k2 => rfl))
  | ((with_reducible show GE _ _ (tOp (rIxT _) _ (tC (V.int 1))) _ _ _); refine' ge_ix1 ?k1 ?k2; (case k1 => walk_at "gv"); (case k2 => rfl))
  | ((with_reducible show GE _ _ (tOp (rIxT _) _ (tC (V.int 2))) _ _ _); refine' ge_ix2 ?k1 ?k2; (case k1 => walk_at "gv"); (case k2 => rfl))
  | ((with_reducible show GE _ _ (tTup _) _ _ _); refine' em_tup ?k1 ?k2; (case k1 => walk_at "gs"); (case k2 => exact Nat.le_of_ble_eq_true rfl))
  | ((with_reducible show GE _ _ (tMeth _ _ _ _ _ _ _) _ _ _); refine' ge_fit ?k1 ?k2 ?k3 ?k4; (case k1 => walk_at "gv"); (case k2 => assumption); (case k3 => walk_at "gs"); (case k4 => walk_at "cl"))
  | ((with_reducible show GE _ _ (tCall (spQ _ _) _ _ _) _ _ _); refine' ge_q ?k1 ?k2; (case k1 => walk_at "gs"); (case k2 => walk_at "cl"))
  | ((with_reducible show GE _ _ (tCall (spD _ _) _ _ _) _ _ _); refine' em_call ?k1 ?k2; (case k1 => walk_at "gs"); (case k2 => walk_at "cl")))
local macro_rules | `(tactic| walk_at "gs") => `(tactic| first
  | ((with_reducible show GEs _ _ tNil _ _ _ _); exact ems_nil)
  | ((with_reducible show GEs _ _ (tCons _ _) _ _ _ _); refine' ems_cons ?k1 ?k2; (case k1 => walk_at "gv"); (case k2 => walk_at "gs")))
local macro_rules | `(tactic| walk_at "gb") => `(tactic| first
  | (refine' bm_eb ?k1; (case k1 => walk_at "eb"))
  | ((with_reducible show GB _ _ (tTest (tOp (rEqD _) _ _)) _ _ _ _); first
    | (refine' gb_tyA ?k1 ?k2 ?k3 ?k4; (case k1 => walk_at "gv"); (case k2 => walk_at "gv"); (case k3 => first | rfl | decide +kernel | assumption); (case k4 => first | assumption | decide +kernel | omega))
    | (refine' gb_ty ?k1 ?k2 ?k3 ?k4 ?k5; (case k1 => walk_at "gv"); (case k2 => walk_at "gv"); (case k3 => first | assumption | rfl); (case k4 => first | assumption | decide +kernel | omega); (case k5 => first | assumption | decide +kernel | omega)))
  | ((with_reducible show GB _ _ (tTest (tOp rNe _ _)) _ _ _ _); refine' gb_neS ?k1 ?k2 ?k3; (case k1 => walk_at "gv"); (case k2 => walk_at "gv"); (case k3 => first | decide +kernel | assumption))
  | ((with_reducible show GB _ _ (tNot _) _ _ _ _); first | (refine' bm_not (b := true) ?k1 rfl; (case k1 => walk_at "gb")) | (refine' bm_not (b := false) ?k1 rfl; (case k1 => walk_at "gb")))
  | ((with_reducible show GB _ _ (tB _) _ _ _ _); refine' gb_val ?k1; (case k1 => walk_at "gv")))
local macro_rules | `(tactic| walk_at "gr") => `(tactic| first
  | ((with_reducible show GR _ _ (tRet _) _ _ _); refine' rr_ret ?k1; (case k1 => walk_at "gv"))
  | ((with_reducible show GR _ _ (tSeq (tIfS _ _ tNext) _) _ _ _); (first
    | ((with_reducible refine' rr_skip ?k1 ?k2); (case k1 => walk_at "gb"))
    | ((with_reducible refine' rr_take ?k1 ?k2); (case k1 => walk_at "gb"))); (walk_at "gr"))
  | ((with_reducible show GR _ _ (tSeq _ _) _ _ _); (with_reducible refine' rr_sn ?k1 ?k2); (case k1 => walk_at "gn"); (case k2 => walk_at "gr")))
local macro_rules | `(tactic| walk_at "gn") => `(tactic| first
  | ((with_reducible show GN _ _ tNext _ _ _ _); exact nm_next)
  | ((with_reducible show GN _ _ (tAsg _ (gName _)) _ _ _ _); refine' nm_asg ?k1; (case k1 => walk_at "gv"))
  | ((with_reducible show GN _ _ (tAsg _ _) _ _ _ _); refine' gn_up2 ?k1; (case k1 => walk_at "gv"))
  | ((with_reducible show GN _ _ (tIfS _ _ _) _ _ _ _); (first
    | ((with_reducible refine' nm_yes ?k1 ?k2); (case k1 => walk_at "gb"))
    | ((with_reducible refine' nm_no ?k1 ?k2); (case k1 => walk_at "gb"))); (walk_at "gn"))
  | ((with_reducible show GN _ _ (tSeq _ _) _ _ _ _); (with_reducible refine' nm_sn ?k1 ?k2); (case k1 => walk_at "gn"); (case k2 => walk_at "gn")))
section
variable {P : Program} {w : World} {K : PySem.W.Frag} {mg : Str → Option Value} {base : Heap}
theorem ok_q {x qual : Str} {params : Arguments} {body : List Stmt} {scope : Scope} {f : Addr} {fd : FuncData} {N ps : List Str} {k : Nat} {R : (Hp → Prop) → List D → D → Prop} (F : FunD K x qual params body scope [] [] f fd) (S : FnScope N ps scope)
    (len : ∀ Φ l d, R Φ l d → l.length = ps.length) (mon : ∀ (Φ Φ' : Hp → Prop) l d, (∀ H, Φ' H → Φ H) → R Φ l d → R Φ' l d)
    (hb : ∀ (cdv : Value) (A : Around) (outer : List Env) (s : Shared) (H : Hp) (E : XK) (Φ : Hp → Prop) (l : List D) (d : D), Room k (A.deeper (envOfC qual scope s.heap.objs.size f cdv)) → R Φ l d → Gr (wF Φ) →
      ∃ t, PSs (cxOf C8.CX0 P w K mg base N qual scope f cdv A outer s H E).nox body t ∧ GR K (wF Φ) t (l.map some ++ List.replicate (N.length - ps.length) none) () (Is d ())) : FnOk P w K mg base C8.CX0 (k + 1) f fd ps (spQ K R) := by
  refine F.ok S (fun vs H Q E h => ?_) fun cdv A outer s H vs Q E hr h => ?_
  · obtain ⟨Φ, l, d, _, _, h1, h2, _⟩ := h
    rw [h1.len]; exact len Φ l d h2
  · obtain ⟨Φ, l, d, hc, h0, h1, h2, h3⟩ := h
    obtain ⟨t, ht, hd⟩ := hb cdv A outer s H E (fun H' => Φ H' ∧ Ex H H') l d hr (mon Φ _ l d (fun _ z => z.1) h2) ⟨fun e z => ⟨hc _ _ z.1 e, z.2.trans e⟩⟩
    refine ⟨t, ht.nox, hd _ _ _ ?_ ⟨h0, Ex.refl H⟩ fun v H' d' _ k tm W' r => ?_⟩
    · unfold L2.start
      rw [h1.len, len Φ l d h2]
      exact lo_start _ h1
    · obtain ⟨rfl, _⟩ := k
      exact h3 v H' W'.2 r
/-! ### Part(), fitted -/
def spPart (K : PySem.W.Frag) : Sp := fun vs H Q _ => ∃ p dx n x y, vs = [.ref p, .int n, x, y] ∧ H p = some (.ins (CP K) dx []) ∧ Q .non (upd H p (.ins (CP K) dx (pf n x y)))
theorem ok_Part (T : Tx w K mg) : C8.Mak P w K mg base 1 "Part" (CP K) (spPart K) [] := by
  refine mk_Part_init T fun fd F => F.ok sc_Part_init (fun vs H Q E h => ?_) fun cdv A outer s H vs Q E hr h => ?_
  · obtain ⟨p, dx, n, x, y, rfl, _⟩ := h
    rfl
  · obtain ⟨p, dx, n, x, y, rfl, hp, q⟩ := h
    refine ⟨_, PSs.nox (pss_cons (ps_fld (pv 0) (pv 1) rfl)
  (pss_cons (ps_fld (pv 0) (pv 2) rfl)
  (pss_one (ps_fld (pv 0) (pv 3) rfl)))), ?_⟩
    refine ⟨_, rfl, _, rfl, p, _, dx, [], rfl, hp, cl_Part T, na_Part_number T, (by show 0 < 1000; decide), ?_⟩
    refine ⟨_, rfl, _, rfl, p, _, dx, _, rfl, upd_same, cl_Part T, na_Part_core T, (by show 1 < 1000; decide), ?_⟩
    refine ⟨_, rfl, _, rfl, p, _, dx, _, rfl, upd_same, cl_Part T, na_Part_known T, (by show 2 < 1000; decide), ?_⟩
    have e : putF "known" y (putF "core" x (putF "number" (.int n) [])) = pf n x y := by kernel_rfl
    rw [upd_upd, upd_upd, e]
    exact q
def RFit (K : PySem.W.Frag) : (Hp → Prop) → List D → D → Prop := fun Φ l d => ∃ a p U co, l = [.r a, Ty.d U] ∧ (∀ H, Φ H → PartAt K H a p) ∧ fit p U = some co ∧ d = Co.d co
theorem ok_fitted (T : Tx w K mg) : C8.Met P w K mg base 14 (CP K) "fitted" (spQ K (RFit K)) [] := by
  have c_consistent : C8.Cal P w K mg base 13 "consistent" (spD K (RCo 12)) [] := ok_consistent T 12
  refine mk_Part_fitted T fun fd F => ok_q F sc_Part_fitted (fun Φ l d h => by obtain ⟨a, p, U, co, rfl, _⟩ := h; rfl) (fun Φ Φ' l d hs h => by obtain ⟨a, p, U, co, h1, h2, h3⟩ := h; exact ⟨a, p, U, co, h1, fun H z => h2 H (hs H z), h3⟩) fun cdv A outer s H E Φ l d hr h _ => ?_
  obtain ⟨a, p, U, co, rfl, hp, hf, rfl⟩ := h
  refine ⟨_, (pss_cons (ps_if (pt_not (pt_val (C8.pe_c c_consistent hr (by omega) rfl (pa_cons (pe_fld (pv 0) rfl) (pa_cons (pv 1) pa_nil))))) (pss_one ps_never) pss_nil)
  (pss_cons (ps_if (pt_cmpR (op_eqD hr.units) (pe_fld (pv 0) rfl) (pv 1) (nomark _)) (pss_one (ps_ret (pe_fld (pv 0) rfl))) pss_nil)
  (pss_one (ps_ret (pe_tup (pa_cons pe_str (pa_cons (pe_fld (pv 0) rfl) (pa_cons (pe_fld (pv 0) rfl) (pa_cons (pv 1) (pa_cons (pe_fld (pv 0) rfl) pa_nil)))))))))), ?_⟩
  unfold fit at hf
  split at hf
  case isFalse => cases hf
  rename_i hc
  obtain ⟨⟨h1, h2⟩, h3⟩ := hc
  have hp' : ∀ H, wF Φ () H → PartAt K H a p := hp
  have q1 : RCo 12 [Ty.d p.known, Ty.d U] (.b true) := ⟨_, _, rfl, h3, by omega, by omega, by omega, rfl⟩
  by_cases e : p.known = U
  · rw [if_pos e] at hf
    cases hf
    have e1 : decide (p.known = U) = true := decide_eq_true e
    walk_at "gr"
  · rw [if_neg e] at hf
    cases hf
    have e1 : decide (p.known = U) = false := decide_eq_false e
    walk_at "gr"
end
end Hn
end

/- HnW13 -/
section
set_option Elab.async false
set_option linter.all false
set_option maxRecDepth 100000
set_option maxHeartbeats 4000000
namespace Hn
open PySem PySem.Spec PyProof.Rows L2 Evl
local macro_rules | `(tactic| walk_at "ev") => `(tactic| first
  | ((with_reducible show ED _ (tVar _) _ _); exact ed_var rfl)
  | ((with_reducible show ED _ (tC _) _ _); first | exact ed_s | exact ed_i | exact ed_b | exact ed_n | exact ed_c (by assumption))
  | ((with_reducible show ED _ (tOp (rIxT _) _ (tC (V.int 0))) _ _); refine' ed_ix0 ?k1 ?k2; (case k1 => walk_at "ev"); (case k2 => rfl))
  | ((with_reducible show ED _ (tOp (rIxT _) _ (tC (V.int 1))) _ _); refine' ed_ix1 ?k1 ?k2; (case k1 => walk_at "ev"); (case k2 => rfl))
  | ((with_reducible show ED _ (tOp (rIxT _) _ (tC (V.int 2))) _ _); refine' ed_ix2 ?k1 ?k2; (case k1 => walk_at "ev"); (case k2 => rfl))
  | ((with_reducible show ED _ (tOp (rIxT _) _ (tC (V.int 3))) _ _); refine' ed_ix3 ?k1 ?k2; (case k1 => walk_at "ev"); (case k2 => rfl))
  | ((with_reducible show ED _ (tOp (rIxT _) _ (tC (V.int 4))) _ _); refine' ed_ix4 ?k1 ?k2; (case k1 => walk_at "ev"); (case k2 => rfl))
  | ((with_reducible show ED _ (tOp (rIxT _) _ (tC (V.int 5))) _ _); refine' ed_ix5 ?k1 ?k2; (case k1 => walk_at "ev"); (case k2 => rfl))
  | ((with_reducible show ED _ (tOp (rIxT _) _ (tVar _)) _ _); first
    | (refine' ed_ixE (j := 1) ?k1 ?k2 ?k3 ?k4; (case k1 => walk_at "ev"); (case k2 => walk_at "ev"); (case k3 => rfl); (case k4 => first | rfl | decide))
    | (refine' ed_ixE (j := 2) ?k1 ?k2 ?k3 ?k4; (case k1 => walk_at "ev"); (case k2 => walk_at "ev"); (case k3 => rfl); (case k4 => first | rfl | decide)))
  | ((with_reducible show ED _ (tCB _ (tCons _ tNil)) _ _); refine' ed_len ?k1 ?k2; (case k1 => walk_at "ev"); (case k2 => rfl))
  | ((with_reducible show ED _ (tTup _) _ _); refine' ed_tup ?k1 ?k2; (case k1 => walk_at "es"); (case k2 => exact Nat.le_of_ble_eq_true rfl))
  | ((with_reducible show ED _ (tCall _ _ _ _) _ _); refine' ed_call ?k1 ?k2; (case k1 => walk_at "es"); (case k2 => walk_at "cl"))
  | ((with_reducible show ED _ (tCallN _ _ _ _ _ _ _) _ _); refine' ed_callK ?k1 ?k2 ?k3 ?k4 ?k5; (case k1 => walk_at "es"); (case k2 => walk_at "es"); (case k3 => walk_at "cl"); (case k4 => rfl); (case k5 => rfl))
  | ((with_reducible show ED _ (tOp (rI0 _) _ _) _ _); first
    | (refine' ed_add ?k1 ?k2; (case k1 => walk_at "ev"); (case k2 => walk_at "ev"))
    | (refine' ed_sub ?k1 ?k2; (case k1 => walk_at "ev"); (case k2 => walk_at "ev"))
    | (refine' ed_lt ?k1 ?k2; (case k1 => walk_at "ev"); (case k2 => walk_at "ev"))))
local macro_rules | `(tactic| walk_at "es") => `(tactic| first
  | ((with_reducible show EDs _ tNil _ _); exact es_nil)
  | ((with_reducible show EDs _ (tCons _ _) _ _); refine' es_cons ?k1 ?k2; (case k1 => walk_at "ev"); (case k2 => walk_at "es")))
local macro_rules | `(tactic| walk_at "eb") => `(tactic| first
  | ((with_reducible show EB _ (tTest (tOp rEq _ _)) _ _); refine' eb_eqS ?k1 ?k2 ?k3; (case k1 => walk_at "ev"); (case k2 => walk_at "ev"); (case k3 => first | decide +kernel | assumption))
  | ((with_reducible show EB _ (tTest (tOp rNe _ _)) _ _); refine' eb_neS ?k1 ?k2 ?k3; (case k1 => walk_at "ev"); (case k2 => walk_at "ev"); (case k3 => first | decide +kernel | assumption))
  | ((with_reducible show EB _ (tTest (tOp (rEqD _) _ _)) _ _); first
    | (refine' eb_ck ?k1 ?k2 ?k3 ?k4; (case k1 => walk_at "ev"); (case k2 => walk_at "ev"); (case k3 => first | rfl | decide +kernel | assumption); (case k4 => first | assumption | decide +kernel | omega))
    | (refine' eb_tyA ?k1 ?k2 ?k3 ?k4; (case k1 => walk_at "ev"); (case k2 => walk_at "ev"); (case k3 => first | rfl | decide +kernel | assumption); (case k4 => first | assumption | decide +kernel | omega))
    | (refine' eb_ty ?k1 ?k2 ?k3 ?k4 ?k5; (case k1 => walk_at "ev"); (case k2 => walk_at "ev"); (case k3 => first | assumption | rfl); (case k4 => first | assumption | decide +kernel | omega); (case k5 => first | assumption | decide +kernel | omega)))
  | ((with_reducible show EB _ (tTest (tOp (rIn _ _) _ _)) _ _); refine' eb_in ?k1 ?k2 ?k3; (case k1 => walk_at "ev"); (case k2 => walk_at "ev"); (case k3 => decide +kernel))
  | ((with_reducible show EB _ (tOr _ _) _ _); first
    | (refine' eb_or (b := true) ?k1 ?k2 ?k3; (case k1 => walk_at "eb"); (case k2 => intro z; cases z); (case k3 => intro _; rfl))
    | (refine' eb_or (b := false) ?k1 ?k2 ?k3; (case k1 => walk_at "eb"); (case k2 => intro _; walk_at "eb"); (case k3 => intro z; cases z)))
  | ((with_reducible show EB _ (tAnd _ _) _ _); first
    | (refine' eb_and (b := false) ?k1 ?k2 ?k3; (case k1 => walk_at "eb"); (case k2 => intro z; cases z); (case k3 => intro _; rfl))
    | (refine' eb_and (b := true) ?k1 ?k2 ?k3; (case k1 => walk_at "eb"); (case k2 => intro _; walk_at "eb"); (case k3 => intro z; cases z)))
  | ((with_reducible show EB _ (tNot _) _ _); first | (refine' eb_not (b := true) ?k1 rfl; (case k1 => walk_at "eb")) | (refine' eb_not (b := false) ?k1 rfl; (case k1 => walk_at "eb")))
  | ((with_reducible show EB _ (tB _) _ _); refine' eb_val ?k1; (case k1 => walk_at "ev")))
local macro_rules | `(tactic| walk_at "rd") => `(tactic| first
  | ((with_reducible show RD _ (tRet _) _ _); refine' rd_ret ?k1; (case k1 => walk_at "ev"))
  | ((with_reducible show RD _ (tSeq (tIfS _ _ tNext) _) _ _); (first
    | ((with_reducible refine' rd_skip ?k1 ?k2); (case k1 => walk_at "eb"))
    | ((with_reducible refine' rd_take ?k1 ?k2); (case k1 => walk_at "eb"))); (walk_at "rd"))
  | ((with_reducible show RD _ (tIfS _ _ _) _ _); (first
    | ((with_reducible refine' rd_yes ?k1 ?k2); (case k1 => walk_at "eb"))
    | ((with_reducible refine' rd_no ?k1 ?k2); (case k1 => walk_at "eb"))); (walk_at "rd"))
  | ((with_reducible show RD _ (tSeq _ _) _ _); (with_reducible refine' rd_sn ?k1 ?k2); (case k1 => walk_at "nd"); (case k2 => walk_at "rd")))
local macro_rules | `(tactic| walk_at "nd") => `(tactic| first
  | ((with_reducible show ND _ tNext _ _); exact nd_next)
  | ((with_reducible show ND _ (tAsg _ _) _ _); refine' nd_asg ?k1; (case k1 => walk_at "ev"))
  | ((with_reducible show ND _ (tIfS _ _ _) _ _); (first
    | ((with_reducible refine' nd_yes ?k1 ?k2); (case k1 => walk_at "eb"))
    | ((with_reducible refine' nd_no ?k1 ?k2); (case k1 => walk_at "eb"))); (walk_at "nd"))
  | ((with_reducible show ND _ (tSeq _ _) _ _); (with_reducible refine' nd_sn ?k1 ?k2); (case k1 => walk_at "nd"); (case k2 => walk_at "nd")))
local macro_rules | `(tactic| walk_at "cl") => `(tactic| first | assumption | skip)
local macro_rules | `(tactic| walk_at "gv") => `(tactic| first
  | (refine' em_ed ?k1; (case k1 => walk_at "ev"))
  | ((with_reducible show GE _ _ (tFld _ _ _) _ _ _); first
    | (refine' ge_known ?kT ?k1 ?k2; (case kT => assumption); (case k1 => walk_at "gv"); (case k2 => assumption))
    | (refine' ge_core ?kT ?k1 ?k2; (case kT => assumption); (case k1 => walk_at "gv"); (case k2 => assumption))
    | (refine' ge_num ?kT ?k1 ?k2; (case kT => assumption); (case k1 => walk_at "gv"); (case k2 => assumption)))
  | ((with_reducible show GE _ _ (tOp (rIxL _) _ (tC (V.int 0))) _ _ _); refine' ge_ixL0 ?k1 ?k2 ?k3; (case k1 => walk_at "gv"); (case k2 => assumption); (case k3 => rfl))
  | ((with_reducible show GE _ _ (tOp (rIxL _) _ (tC (V.int 1))) _ _ _); refine' ge_ixL1 ?k1 ?k2 ?k3; (case k1 => walk_at "gv"); (case k2 => assumption); (case k3 => rfl))
  | ((with_reducible show GE _ _ (tOp (rIxL _) _ (tC (V.int 2))) _ _ _); refine' ge_ixL2 ?k1 ?k2 ?k3; (case k1 => walk_at "gv"); (case k2 => assumption); (case k3 => rfl))
  | ((with_reducible show GE _ _ (tOp (rIxT _) _ (tC (V.int 0))) _ _ _); refine' ge_ix0 ?k1 ?k2; (case k1 => walk_at "gv"); (case k2 => rfl))
  | ((with_reducible show GE _ _ (tOp (rIxT _) _ (tC (V.int 1))) _ _ _); refine' ge_ix1 ?k1 ?k2; (case k1 => walk_at "gv"); (case k2 => rfl))
  | ((with_reducible show GE _ _ (tOp (rIxT _) _ (tC (V.int 2))) _ _ _); refine' ge_ix2 ?k1 ?k2; (case k1 => walk_at "gv"); (case k2 => rfl))
  | ((with_reducible show GE _ _ (tTup _) _ _ _); refine' em_tup ?k1 ?k2; (case k1 => walk_at "gs"); (case k2 => exact Nat.le_of_ble_eq_true rfl))
  | ((with_reducible show GE _ _ (tMeth _ _ _ _ _ _ _) _ _ _); refine' ge_fit ?k1 ?k2 ?k3 ?k4; (case k1 => walk_at "gv"); (case k2 => assumption); (case k3 => walk_at "gs"); (case k4 => walk_at "cl"))
  | ((with_reducible show GE _ _ (tCall (spQ _ _) _ _ _) _ _ _); refine' ge_q ?k1 ?k2; (case k1 => walk_at "gs"); (case k2 => walk_at "cl"))
  | ((with_reducible show GE _ _ (tCall (spD _ _) _ _ _) _ _ _); refine' em_call ?k1 ?k2; (case k1 => walk_at "gs"); (case k2 => walk_at "cl")))
local macro_rules | `(tactic| walk_at "gs") => `(tactic| first
  | ((with_reducible show GEs _ _ tNil _ _ _ _); exact ems_nil)
  | ((with_reducible show GEs _ _ (tCons _ _) _ _ _ _); refine' ems_cons ?k1 ?k2; (case k1 => walk_at "gv"); (case k2 => walk_at "gs")))
local macro_rules | `(tactic| walk_at "gb") => `(tactic| first
  | (refine' bm_eb ?k1; (case k1 => walk_at "eb"))
  | ((with_reducible show GB _ _ (tTest (tOp (rEqD _) _ _)) _ _ _ _); first
    | (refine' gb_tyA ?k1 ?k2 ?k3 ?k4; (case k1 => walk_at "gv"); (case k2 => walk_at "gv"); (case k3 => first | rfl | decide +kernel | assumption); (case k4 => first | assumption | decide +kernel | omega))
    | (refine' gb_ty ?k1 ?k2 ?k3 ?k4 ?k5; (case k1 => walk_at "gv"); (case k2 => walk_at "gv"); (case k3 => first | assumption | rfl); (case k4 => first | assumption | decide +kernel | omega); (case k5 => first | assumption | decide +kernel | omega)))
  | ((with_reducible show GB _ _ (tTest (tOp rNe _ _)) _ _ _ _); refine' gb_neS ?k1 ?k2 ?k3; (case k1 => walk_at "gv"); (case k2 => walk_at "gv"); (case k3 => first | decide +kernel | assumption))
  | ((with_reducible show GB _ _ (tNot _) _ _ _ _); first | (refine' bm_not (b := true) ?k1 rfl; (case k1 => walk_at "gb")) | (refine' bm_not (b := false) ?k1 rfl; (case k1 => walk_at "gb")))
  | ((with_reducible show GB _ _ (tB _) _ _ _ _); refine' gb_val ?k1; (case k1 => walk_at "gv")))
local macro_rules | `(tactic| walk_at "gr") => `(tactic| first
  | ((with_reducible show GR _ _ (tRet _) _ _ _); refine' rr_ret ?k1; (case k1 => walk_at "gv"))
  | ((with_reducible show GR _ _ (tSeq (tIfS _ _ tNext) _) _ _ _); (first
    | ((with_reducible refine' rr_skip ?k1 ?k2); (case k1 => walk_at "gb"))
    | ((with_reducible refine' rr_take ?k1 ?k2); (case k1 => walk_at "gb"))); (walk_at "gr"))
  | ((with_reducible show GR _ _ (tSeq _ _) _ _ _); (with_reducible refine' rr_sn ?k1 ?k2); (case k1 => walk_at "gn"); (case k2 => walk_at "gr")))
local macro_rules | `(tactic| walk_at "gn") => `(tactic| first
  | ((with_reducible show GN _ _ tNext _ _ _ _); exact nm_next)
  | ((with_reducible show GN _ _ (tAsg _ (gName _)) _ _ _ _); refine' nm_asg ?k1; (case k1 => walk_at "gv"))
  | ((with_reducible show GN _ _ (tAsg _ _) _ _ _ _); refine' gn_up2 ?k1; (case k1 => walk_at "gv"))
  | ((with_reducible show GN _ _ (tIfS _ _ _) _ _ _ _); (first
    | ((with_reducible refine' nm_yes ?k1 ?k2); (case k1 => walk_at "gb"))
    | ((with_reducible refine' nm_no ?k1 ?k2); (case k1 => walk_at "gb"))); (walk_at "gn"))
  | ((with_reducible show GN _ _ (tSeq _ _) _ _ _ _); (with_reducible refine' nm_sn ?k1 ?k2); (case k1 => walk_at "gn"); (case k2 => walk_at "gn")))
section
variable {P : Program} {w : World} {K : PySem.W.Frag} {mg : Str → Option Value} {base : Heap}
/-! ### bound -/
def enD (q : Nm × Ty) : D := .t [.s q.1.str, Ty.d q.2]
/-- the list of the names' types at p -/
def EnvAt (K : PySem.W.Frag) (H : Hp) (p : Addr) (en : TEn) : Prop := ∃ xs, H p = some (.lst xs) ∧ Reps K H (en.reverse.map enD) xs
theorem EnvAt.grow {H H' : Hp} {p : Addr} {en : TEn} (h : EnvAt K H p en) (e : Ex H H') : EnvAt K H' p en := by
  obtain ⟨xs, h1, h2⟩ := h
  exact ⟨xs, e _ _ h1, h2.mono (Tm.ex e)⟩
def RBo (K : PySem.W.Frag) : (Hp → Prop) → List D → D → Prop := fun Φ l d => ∃ p x en t, l = [.r p, .s (Nm.str x)] ∧ (∀ H, Φ H → EnvAt K H p en) ∧ find en x = some t ∧ d = Ty.d t
theorem ok_bound (T : Tx w K mg) : C8.Cal P w K mg base 1 "bound" (spQ K (RBo K)) [] := by
  refine mk_bound T fun fd F => F.ok sc_bound (fun vs H Q E h => ?_) fun cdv A outer s H vs Q E hr h => ?_
  · obtain ⟨Φ, l, d, _, _, h1, ⟨p, x, en, t, rfl, _⟩, _⟩ := h
    rw [h1.len] <;> rfl
  · obtain ⟨Φ, l, d, hc, h0, h1, ⟨p, x, en, t, rfl, hp, hf, rfl⟩, q⟩ := h
    obtain ⟨v0, r0, rfl, e0, v1, r1, rfl, e1, e2⟩ := h1
    have e0' : v0 = .ref p := e0
    have e1' : v1 = .str x.str := e1
    have e2' : r1 = [] := e2
    subst e0' e1' e2'
    refine ⟨_, PSs.nox (pss_cons (ps_for PassesOwn.never rfl (pi_reversed rfl (fr_reversed T) (pa_cons (pv 0) pa_nil)) (pg_tup rfl (pgs_cons (pg_name (i := 2) sc_bound.nd rfl (Or.inl rfl)) (pgs_cons (pg_name (i := 3) sc_bound.nd rfl (Or.inl rfl)) pgs_nil))) (pss_one (ps_if (pt_cmpR op_eq (pv 2) (pv 1) (nomark _)) (pss_one (ps_ret (pv 3))) pss_nil)))
  (pss_one ps_never)), ?_⟩
    obtain ⟨xs, hx, rx⟩ := hp H h0
    have hl := rx.len
    rw [List.length_map, List.length_reverse] at hl
    refine ⟨_, rfl, p, xs, rfl, SqL.of hx, for_it (walk_rev (K := K) (a := p) (xs := xs)) (fun i σ' H' => Ex H H' ∧ (∃ x2 x3, σ' = [some (.ref p), some (.str x.str), x2, x3]) ∧ find (en.drop i) x = some t) ⟨Ex.refl H, ⟨none, none, rfl⟩, hf⟩ (fun i σ' H' _ ⟨e, _⟩ => SqL.of (e _ _ hx)) (fun i y σ' H2 H3 hi ⟨e, ⟨x2, x3, hσ⟩, hf⟩ hy => ?_) fun σ' H' ⟨e, _, hf⟩ => ?_⟩
    · subst hσ
      obtain ⟨rfl, hy⟩ := hy
      have hi' : i < en.length := by omega
      have ix : (en.reverse.map enD)[xs.length - 1 - i]? = some (enD en[i]) := by
        rw [List.getElem?_map, List.getElem?_reverse (by omega)]
        have : en.length - 1 - (xs.length - 1 - i) = i := by omega
        rw [this, List.getElem?_eq_getElem hi'] <;> rfl
      obtain ⟨z, hz, rz⟩ := rx.get ix
      rw [hy] at hz; cases hz
      obtain ⟨a, ys, rfl, ha, u1, s1, rfl, hu1, u2, s2, rfl, hu2, e3⟩ := rz
      have hu1' : u1 = .str en[i].1.str := hu1
      have e3' : s2 = [] := e3
      subst hu1' e3'
      refine ⟨a, _, rfl, ex_t e ha, rfl, _, _, rfl, u2, [], rfl, rfl, ?_⟩
      refine ⟨_, rfl, _, rfl, rfl, _, rfl, ?_⟩
      have dr : en.drop i = en[i] :: en.drop (i + 1) := List.drop_eq_getElem_cons hi'
      rw [dr] at hf
      have hf' : (if en[i].1 = x then some en[i].2 else find (en.drop (i + 1)) x) = some t := hf
      have eq : decide (V.str en[i].1.str = V.str x.str) = decide (en[i].1 = x) := by
        rw [← Nm.inj]
        by_cases z : en[i].1.str = x.str
        · rw [z, decide_eq_true rfl, decide_eq_true rfl]
        · rw [decide_eq_false z, decide_eq_false fun k => z (V.str.inj k)]
      rw [eq]
      by_cases z : en[i].1 = x
      · rw [if_pos z] at hf'
        cases hf'
        rw [decide_eq_true z]
        exact iteT ⟨u2, rfl, q _ _ e (hu2.ex e)⟩
      · rw [if_neg z] at hf'
        rw [decide_eq_false z]
        exact iteF ⟨e, ⟨_, _, rfl⟩, hf'⟩
    · rw [hl, List.drop_length] at hf
      first | done | cases hf
/-! ### opened, called -/
def ROp2 (K : PySem.W.Frag) : (Hp → Prop) → List D → D → Prop := fun Φ l d => ∃ a p r, l = [.r a, .t (.s p.known.k :: r)] ∧ (∀ H, Φ H → PartAt K H a p) ∧ p.known ≠ .any ∧ ht p.known ≤ 10 ∧ d = .t [Co.d p.core, Ty.d p.known]
theorem ok_opened (T : Tx w K mg) : C8.Cal P w K mg base 15 "opened" (spQ K (ROp2 K)) [] := by
  have c_fitted := ok_fitted (P := P) (base := base) T
  obtain ⟨vA, uA, hANY_check, rANY_check, RA⟩ := gc_ANY_check T
  refine mk_opened T fun fd F => ok_q F sc_opened (fun Φ l d h => by obtain ⟨a, p, r, rfl, _⟩ := h; rfl) (fun Φ Φ' l d hs h => by obtain ⟨a, p, r, h1, h2, h3⟩ := h; exact ⟨a, p, r, h1, fun H z => h2 H (hs H z), h3⟩) fun cdv A outer s H E Φ l d hr h _ => ?_
  obtain ⟨a, p, r, rfl, hp, hn, hh, rfl⟩ := h
  refine ⟨_, (pss_cons (ps_if (pt_cmpR (op_eqD hr.units) (pe_fld (pv 0) rfl) (pe_glob rfl hANY_check rANY_check) (nomark _)) (pss_one (ps_ret (pe_tup (pa_cons (C8.pe_mt c_fitted hr (by omega) (pv 0) (pa_cons (pv 1) pa_nil)) (pa_cons (pv 1) pa_nil))))) pss_nil)
  (pss_cons (ps_if (pt_cmpR op_ne (pe_ix ix_tup (pe_fld (pv 0) rfl) pe_int (fun _ _ => rfl)) (pe_ix ix_tup (pv 1) pe_int (fun _ _ => rfl)) (nomark _)) (pss_one ps_never) pss_nil)
  (pss_one (ps_ret (pe_tup (pa_cons (pe_fld (pv 0) rfl) (pa_cons (pe_fld (pv 0) rfl) pa_nil))))))), ?_⟩
  have hp' : ∀ H, wF Φ () H → PartAt K H a p := hp
  have e1 : decide (p.known = Ty.any) = false := decide_eq_false hn
  have hh' : ht p.known ≤ 60 := by omega
  refine rr_skip (st1 := ()) ?_ (rr_skip (st1 := ()) ?_ (by walk_at "gr"))
  · refine' gb_tyA (A := p.known) ?k1 ?k2 ?k3 ?k4
    case k1 => walk_at "gv"
    case k2 => walk_at "gv"
    case k3 => assumption
    case k4 => assumption
  refine gb_neS (x := p.known.k) (y := p.known.k) (ge_ix0 (l := .s p.known.k :: p.known.cs) (by rw [← Ty.d_eq]; walk_at "gv") rfl) (by walk_at "gv") (by rw [decide_eq_true rfl] <;> rfl)
def RCal (K : PySem.W.Frag) : (Hp → Prop) → List D → D → Prop := fun Φ l d => ∃ a b p q z, l = [.r a, .r b] ∧ (∀ H, Φ H → PartAt K H a p) ∧ (∀ H, Φ H → PartAt K H b q) ∧ callP p q = some z ∧ d = .t [Co.d z.1, Ty.d z.2]
theorem ok_called (T : Tx w K mg) : C8.Cal P w K mg base 16 "called" (spQ K (RCal K)) [] := by
  have c_fitted := ok_fitted (P := P) (base := base) T
  have c_opened := ok_opened (P := P) (base := base) T
  obtain ⟨vA, uA, hANY_FUNCTION, rANY_FUNCTION, RA⟩ := gc_ANY_FUNCTION T
  refine mk_called T fun fd F => ok_q F sc_called (fun Φ l d h => by obtain ⟨a, b, p, q, z, rfl, _⟩ := h; rfl) (fun Φ Φ' l d hs h => by obtain ⟨a, b, p, q, z, h1, h2, h3, h4⟩ := h; exact ⟨a, b, p, q, z, h1, fun H z => h2 H (hs H z), fun H z => h3 H (hs H z), h4⟩) fun cdv A outer s H E Φ l d hr h _ => ?_
  obtain ⟨a, b, p, q, z, rfl, hp, hq, hz, rfl⟩ := h
  refine ⟨_, (pss_cons (ps_asg (C8.pe_c c_opened hr (by omega) rfl (pa_cons (pv 0) (pa_cons (pe_glob rfl hANY_FUNCTION rANY_FUNCTION) pa_nil))) (pg_tup rfl (pgs_cons (pg_name (i := 2) sc_called.nd rfl (Or.inl rfl)) (pgs_cons (pg_name (i := 3) sc_called.nd rfl (Or.inl rfl)) pgs_nil))))
  (pss_one (ps_ret (pe_tup (pa_cons (pe_tup (pa_cons pe_str (pa_cons (pv 2) (pa_cons (C8.pe_mt c_fitted hr (by omega) (pv 1) (pa_cons (pe_ix ix_tup (pv 3) pe_int (fun _ _ => rfl)) pa_nil)) pa_nil)))) (pa_cons (pe_ix ix_tup (pv 3) pe_int (fun _ _ => rfl)) pa_nil)))))), ?_⟩
  have hp' : ∀ H, wF Φ () H → PartAt K H a p := hp
  have hq' : ∀ H, wF Φ () H → PartAt K H b q := hq
  unfold callP at hz
  split at hz
  case h_2 => cases hz
  rename_i A' B' hk
  split at hz
  case isFalse => cases hz
  rename_i hh
  obtain ⟨x, hx, hz⟩ := Option.map_eq_some_iff.mp hz
  cases hz
  have q1 : ROp2 K (wF Φ ()) [.r a, .t [.s "fun", tS "any", tS "any"]] (.t [Co.d p.core, Ty.d p.known]) := ⟨a, p, [tS "any", tS "any"], (by rw [hk] <;> rfl), hp, (by rw [hk]; intro z; cases z), (by rw [hk]; exact hh), rfl⟩
  rw [hk] at q1
  have q2 : RFit K (wF Φ ()) [.r b, Ty.d A'] (Co.d x) := ⟨b, q, A', x, rfl, hq, hx, rfl⟩
  refine rr_sn (gn_up2 (x := Co.d p.core) (y := Ty.d (.fn A' B')) (ge_q (by walk_at "gs") q1)) ?_
  walk_at "gr"
/-! ### composed, simple -/
def PsAt (K : PySem.W.Frag) (Φ : Hp → Prop) (lp : Addr) (as : List Addr) : Prop := ∀ H, Φ H → H lp = some (.lst (as.map V.ref))
def RCmp (K : PySem.W.Frag) : (Hp → Prop) → List D → D → Prop := fun Φ l d => ∃ lp as, PsAt K Φ lp as ∧
  ((∃ a b p q z, as = [a, b] ∧ l = [.s "call", .r lp] ∧ (∀ H, Φ H → PartAt K H a p) ∧ (∀ H, Φ H → PartAt K H b q) ∧ callP p q = some z ∧ d = .t [Co.d z.1, Ty.d z.2]) ∨
   (∃ a b c p q r z, as = [a, b, c] ∧ l = [.s "if", .r lp] ∧ (∀ H, Φ H → PartAt K H a p) ∧ (∀ H, Φ H → PartAt K H b q) ∧ (∀ H, Φ H → PartAt K H c r) ∧ ifP p q r = some z ∧ d = .t [Co.d z.1, Ty.d z.2]) ∨
   (∃ a b p q, as = [a, b] ∧ l = [.s "pair", .r lp] ∧ (∀ H, Φ H → PartAt K H a p) ∧ (∀ H, Φ H → PartAt K H b q) ∧ d = .t [Co.d (.pr p.core q.core), Ty.d (.pr p.known q.known)]))
theorem ok_composed (T : Tx w K mg) : C8.Cal P w K mg base 17 "composed" (spQ K (RCmp K)) [] := by
  have c_fitted := ok_fitted (P := P) (base := base) T
  have c_opened := ok_opened (P := P) (base := base) T
  have c_called := ok_called (P := P) (base := base) T
  have c_meeting : C8.Cal P w K mg base 13 "meeting" (spD K (RMe 12)) [] := ok_meeting T 12
  obtain ⟨vP, uP, hANY_PAIR, rANY_PAIR, RP⟩ := gc_ANY_PAIR T
  obtain ⟨vB, uB, hBOOL, rBOOL, RB⟩ := gc_BOOL T
  refine mk_composed T fun fd F => ok_q F sc_composed (fun Φ l d h => by obtain ⟨lp, as, _, ⟨a, b, p, q, z, _, rfl, _⟩ | ⟨a, b, c, p, q, r, z, _, rfl, _⟩ | ⟨a, b, p, q, _, rfl, _⟩⟩ := h <;> rfl) (fun Φ Φ' l d hs h => by
      obtain ⟨lp, as, h0, ⟨a, b, p, q, z, h1, h2, h3, h4, h5⟩ | ⟨a, b, c, p, q, r, z, h1, h2, h3, h4, h5, h6⟩ | ⟨a, b, p, q, h1, h2, h3, h4, h5⟩⟩ := h
      · exact ⟨lp, as, fun H z => h0 H (hs H z), .inl ⟨a, b, p, q, z, h1, h2, fun H z => h3 H (hs H z), fun H z => h4 H (hs H z), h5⟩⟩
      · exact ⟨lp, as, fun H z => h0 H (hs H z), .inr (.inl ⟨a, b, c, p, q, r, z, h1, h2, fun H z => h3 H (hs H z), fun H z => h4 H (hs H z), fun H z => h5 H (hs H z), h6⟩)⟩
      · exact ⟨lp, as, fun H z => h0 H (hs H z), .inr (.inr ⟨a, b, p, q, h1, h2, fun H z => h3 H (hs H z), fun H z => h4 H (hs H z), h5⟩)⟩) fun cdv A outer s H E Φ l d hr h _ => ?_
  obtain ⟨lp, as, h0, h⟩ := h
  refine ⟨_, (pss_cons (ps_if (pt_cmpR op_eq (pv 0) pe_str (nomark _)) (pss_one (ps_ret (C8.pe_c c_called hr (by omega) rfl (pa_cons (pe_ix ix_list (pv 1) pe_int (fun _ _ => rfl)) (pa_cons (pe_ix ix_list (pv 1) pe_int (fun _ _ => rfl)) pa_nil))))) pss_nil)
  (pss_cons (ps_if (pt_cmpR op_eq (pv 0) pe_str (nomark _)) (pss_cons (ps_set (i := 2) sc_composed.nd rfl (Or.inl rfl) (C8.pe_mt c_fitted hr (by omega) (pe_ix ix_list (pv 1) pe_int (fun _ _ => rfl)) (pa_cons (pe_glob rfl hBOOL rBOOL) pa_nil)))
  (pss_cons (ps_set (i := 3) sc_composed.nd rfl (Or.inl rfl) (C8.pe_c c_meeting hr (by omega) rfl (pa_cons (pe_fld (pe_ix ix_list (pv 1) pe_int (fun _ _ => rfl)) rfl) (pa_cons (pe_fld (pe_ix ix_list (pv 1) pe_int (fun _ _ => rfl)) rfl) pa_nil))))
  (pss_cons (ps_if (pt_cmpR op_isN (pv 3) pe_non (nomark _)) (pss_one ps_never) pss_nil)
  (pss_one (ps_ret (pe_tup (pa_cons (pe_tup (pa_cons pe_str (pa_cons (pv 2) (pa_cons (C8.pe_mt c_fitted hr (by omega) (pe_ix ix_list (pv 1) pe_int (fun _ _ => rfl)) (pa_cons (pv 3) pa_nil)) (pa_cons (C8.pe_mt c_fitted hr (by omega) (pe_ix ix_list (pv 1) pe_int (fun _ _ => rfl)) (pa_cons (pv 3) pa_nil)) pa_nil))))) (pa_cons (pv 3) pa_nil)))))))) pss_nil)
  (pss_cons (ps_if (pt_cmpR op_eq (pv 0) pe_str (nomark _)) (pss_one (ps_ret (pe_tup (pa_cons (pe_tup (pa_cons pe_str (pa_cons (pe_fld (pe_ix ix_list (pv 1) pe_int (fun _ _ => rfl)) rfl) (pa_cons (pe_fld (pe_ix ix_list (pv 1) pe_int (fun _ _ => rfl)) rfl) pa_nil)))) (pa_cons (pe_tup (pa_cons pe_str (pa_cons (pe_fld (pe_ix ix_list (pv 1) pe_int (fun _ _ => rfl)) rfl) (pa_cons (pe_fld (pe_ix ix_list (pv 1) pe_int (fun _ _ => rfl)) rfl) pa_nil)))) pa_nil))))) pss_nil)
  (pss_cons (ps_asg (C8.pe_c c_opened hr (by omega) rfl (pa_cons (pe_ix ix_list (pv 1) pe_int (fun _ _ => rfl)) (pa_cons (pe_glob rfl hANY_PAIR rANY_PAIR) pa_nil))) (pg_tup rfl (pgs_cons (pg_name (i := 4) sc_composed.nd rfl (Or.inl rfl)) (pgs_cons (pg_name (i := 3) sc_composed.nd rfl (Or.inl rfl)) pgs_nil))))
  (pss_cons (ps_if (pt_cmpR op_eq (pv 0) pe_str (nomark _)) (pss_one (ps_ret (pe_tup (pa_cons (pe_tup (pa_cons pe_str (pa_cons (pv 4) pa_nil))) (pa_cons (pe_ix ix_tup (pv 3) pe_int (fun _ _ => rfl)) pa_nil))))) pss_nil)
  (pss_one (ps_ret (pe_tup (pa_cons (pe_tup (pa_cons pe_str (pa_cons (pv 4) pa_nil))) (pa_cons (pe_ix ix_tup (pv 3) pe_int (fun _ _ => rfl)) pa_nil)))))))))), ?_⟩
  have h0' : ∀ H, wF Φ () H → H lp = some (.lst (as.map V.ref)) := h0
  rcases h with ⟨a, b, p, q, z, rfl, rfl, hp, hq, hz, rfl⟩ | ⟨a, b, c, p, q, r, z, rfl, rfl, hp, hq, hR, hz, rfl⟩ | ⟨a, b, p, q, rfl, rfl, hp, hq, rfl⟩
  · have hp' : ∀ H, wF Φ () H → PartAt K H a p := hp
    have hq' : ∀ H, wF Φ () H → PartAt K H b q := hq
    have q1 : RCal K (wF Φ ()) [.r a, .r b] (.t [Co.d z.1, Ty.d z.2]) := ⟨a, b, p, q, z, rfl, hp, hq, hz, rfl⟩
    walk_at "gr"
  · have hp' : ∀ H, wF Φ () H → PartAt K H a p := hp
    have hq' : ∀ H, wF Φ () H → PartAt K H b q := hq
    have hr' : ∀ H, wF Φ () H → PartAt K H c r := hR
    unfold ifP at hz
    split at hz
    case isFalse => cases hz
    rename_i hk
    obtain ⟨x, hx, hz⟩ := Option.bind_eq_some_iff.mp hz
    obtain ⟨y, hy, hz⟩ := Option.bind_eq_some_iff.mp hz
    obtain ⟨u, hu, hz⟩ := Option.map_eq_some_iff.mp hz
    cases hz
    have q1 : RFit K (wF Φ ()) [.r a, Ty.d .bool] (Co.d x) := ⟨a, p, .bool, x, rfl, hp, hx, rfl⟩
    have q2 : RMe 12 [Ty.d q.known, Ty.d r.known] (Ty.d q.known) := ⟨q.known, by rw [hk.1], by have := hk.2; omega, by decide, rfl⟩
    have q3 : RFit K (wF Φ ()) [.r b, Ty.d q.known] (Co.d y) := ⟨b, q, _, y, rfl, hq, hy, rfl⟩
    have q4 : RFit K (wF Φ ()) [.r c, Ty.d q.known] (Co.d u) := ⟨c, r, _, u, rfl, hR, hu, rfl⟩
    refine rr_skip (by walk_at "gb") (rr_take (by walk_at "gb") ?_)
    refine rr_sn (nm_asg (i := 2) (d := Co.d x) (ge_fit (by walk_at "gv") hp' (ems_ed (l := [Ty.d .bool]) (es_cons (ed_c RB) es_nil)) q1)) ?_
    refine rr_sn (by walk_at "gn") ?_
    refine rr_skip (bm_eb (eb_isN0 (l := .s q.known.k :: q.known.cs) (by rw [← Ty.d_eq]; walk_at "ev"))) ?_
    walk_at "gr"
  · have hp' : ∀ H, wF Φ () H → PartAt K H a p := hp
    have hq' : ∀ H, wF Φ () H → PartAt K H b q := hq
    walk_at "gr"
def RSim (K : PySem.W.Frag) : (Hp → Prop) → List D → D → Prop := fun Φ l d => ∃ lp as e, PsAt K Φ lp as ∧ l = [Sx.d e, .r lp] ∧
  ((∃ e1 a p, e = .bx e1 ∧ as = [a] ∧ (∀ H, Φ H → PartAt K H a p) ∧ d = .t [Co.d (.bx p.core), Ty.d (.bx p.known)]) ∨
   (∃ e1 a p z, e = .get e1 ∧ as = [a] ∧ (∀ H, Φ H → PartAt K H a p) ∧ getP p = some z ∧ d = .t [Co.d z.1, Ty.d z.2]) ∨
   (∃ e1 e2 a b p q z, e = .put e1 e2 ∧ as = [a, b] ∧ (∀ H, Φ H → PartAt K H a p) ∧ (∀ H, Φ H → PartAt K H b q) ∧ putP p q = some z ∧ d = .t [Co.d z.1, Ty.d z.2]) ∨
   (∃ o e1 e2 a b p q z, e = .op o e1 e2 ∧ as = [a, b] ∧ (∀ H, Φ H → PartAt K H a p) ∧ (∀ H, Φ H → PartAt K H b q) ∧ opP o p q = some z ∧ d = .t [Co.d z.1, Ty.d z.2]))
theorem ok_simple (T : Tx w K mg) : C8.Cal P w K mg base 16 "simple" (spQ K (RSim K)) [] := by
  have c_fitted := ok_fitted (P := P) (base := base) T
  have c_opened := ok_opened (P := P) (base := base) T
  obtain ⟨vX, uX, hANY_BOX, rANY_BOX, RX⟩ := gc_ANY_BOX T
  obtain ⟨vB, uB, hBOOL, rBOOL, RB⟩ := gc_BOOL T
  obtain ⟨vI, uI, hINT, rINT, RI⟩ := gc_INT T
  obtain ⟨vU, uU, hUNIT_check, rUNIT_check, RU⟩ := gc_UNIT_check T
  have RI' : ∀ H, Rep K H (Ty.d .int) vI := RI
  have RB' : ∀ H, Rep K H (Ty.d .bool) vB := RB
  have RU' : ∀ H, Rep K H (Ty.d .unit) vU := RU
  clear RI RB RU
  refine mk_simple T fun fd F => ok_q F sc_simple (fun Φ l d h => by obtain ⟨lp, as, e, _, rfl, _⟩ := h; rfl) (fun Φ Φ' l d hs h => by
      obtain ⟨lp, as, e, h0, h1, ⟨e1, a, p, h2, h3, h4, h5⟩ | ⟨e1, a, p, z, h2, h3, h4, h5⟩ | ⟨e1, e2, a, b, p, q, z, h2, h3, h4, h5, h6⟩ | ⟨o, e1, e2, a, b, p, q, z, h2, h3, h4, h5, h6⟩⟩ := h
      · exact ⟨lp, as, e, fun H z => h0 H (hs H z), h1, .inl ⟨e1, a, p, h2, h3, fun H z => h4 H (hs H z), h5⟩⟩
      · exact ⟨lp, as, e, fun H z => h0 H (hs H z), h1, .inr (.inl ⟨e1, a, p, z, h2, h3, fun H z => h4 H (hs H z), h5⟩)⟩
      · exact ⟨lp, as, e, fun H z => h0 H (hs H z), h1, .inr (.inr (.inl ⟨e1, e2, a, b, p, q, z, h2, h3, fun H z => h4 H (hs H z), fun H z => h5 H (hs H z), h6⟩))⟩
      · exact ⟨lp, as, e, fun H z => h0 H (hs H z), h1, .inr (.inr (.inr ⟨o, e1, e2, a, b, p, q, z, h2, h3, fun H z => h4 H (hs H z), fun H z => h5 H (hs H z), h6⟩))⟩) fun cdv A outer s H E Φ l d hr h _ => ?_
  obtain ⟨lp, as, e, h0, rfl, h⟩ := h
  refine ⟨_, (pss_cons (ps_set (i := 2) sc_simple.nd rfl (Or.inl rfl) (pe_ix ix_tup (pv 0) pe_int (fun _ _ => rfl)))
  (pss_cons (ps_if (pt_cmpR op_eq (pv 2) pe_str (nomark _)) (pss_one (ps_ret (pe_tup (pa_cons (pe_tup (pa_cons pe_str (pa_cons (pe_fld (pe_ix ix_list (pv 1) pe_int (fun _ _ => rfl)) rfl) pa_nil))) (pa_cons (pe_tup (pa_cons pe_str (pa_cons (pe_fld (pe_ix ix_list (pv 1) pe_int (fun _ _ => rfl)) rfl) pa_nil))) pa_nil))))) pss_nil)
  (pss_cons (ps_if (pt_cmpR op_eq (pv 2) pe_str (nomark _)) (pss_cons (ps_asg (C8.pe_c c_opened hr (by omega) rfl (pa_cons (pe_ix ix_list (pv 1) pe_int (fun _ _ => rfl)) (pa_cons (pe_glob rfl hANY_BOX rANY_BOX) pa_nil))) (pg_tup rfl (pgs_cons (pg_name (i := 3) sc_simple.nd rfl (Or.inl rfl)) (pgs_cons (pg_name (i := 4) sc_simple.nd rfl (Or.inl rfl)) pgs_nil))))
  (pss_one (ps_ret (pe_tup (pa_cons (pe_tup (pa_cons pe_str (pa_cons (pv 3) pa_nil))) (pa_cons (pe_ix ix_tup (pv 4) pe_int (fun _ _ => rfl)) pa_nil)))))) pss_nil)
  (pss_cons (ps_if (pt_cmpR op_eq (pv 2) pe_str (nomark _)) (pss_cons (ps_asg (C8.pe_c c_opened hr (by omega) rfl (pa_cons (pe_ix ix_list (pv 1) pe_int (fun _ _ => rfl)) (pa_cons (pe_glob rfl hANY_BOX rANY_BOX) pa_nil))) (pg_tup rfl (pgs_cons (pg_name (i := 3) sc_simple.nd rfl (Or.inl rfl)) (pgs_cons (pg_name (i := 4) sc_simple.nd rfl (Or.inl rfl)) pgs_nil))))
  (pss_one (ps_ret (pe_tup (pa_cons (pe_tup (pa_cons pe_str (pa_cons (pv 3) (pa_cons (C8.pe_mt c_fitted hr (by omega) (pe_ix ix_list (pv 1) pe_int (fun _ _ => rfl)) (pa_cons (pe_ix ix_tup (pv 4) pe_int (fun _ _ => rfl)) pa_nil)) pa_nil)))) (pa_cons (pe_glob rfl hUNIT_check rUNIT_check) pa_nil)))))) pss_nil)
  (pss_cons (ps_if (pt_cmpR op_eq (pv 2) pe_str (nomark _)) (pss_one (ps_ret (pe_tup (pa_cons (pe_tup (pa_cons pe_str (pa_cons (C8.pe_mt c_fitted hr (by omega) (pe_ix ix_list (pv 1) pe_int (fun _ _ => rfl)) (pa_cons (pe_glob rfl hBOOL rBOOL) pa_nil)) pa_nil))) (pa_cons (pe_glob rfl hBOOL rBOOL) pa_nil))))) pss_nil)
  (pss_cons (ps_if (pt_cmpR op_eq (pv 2) pe_str (nomark _)) (pss_one (ps_ret (pe_tup (pa_cons (pe_tup (pa_cons pe_str (pa_cons (C8.pe_mt c_fitted hr (by omega) (pe_ix ix_list (pv 1) pe_int (fun _ _ => rfl)) (pa_cons (pe_glob rfl hINT rINT) pa_nil)) (pa_cons (pe_fld (pe_ix ix_list (pv 1) pe_int (fun _ _ => rfl)) rfl) pa_nil)))) (pa_cons (pe_fld (pe_ix ix_list (pv 1) pe_int (fun _ _ => rfl)) rfl) pa_nil))))) pss_nil)
  (pss_cons (ps_set (i := 3) sc_simple.nd rfl (Or.inl rfl) (pe_tup (pa_cons pe_str (pa_cons (pe_ix ix_tup (pv 0) pe_int (fun _ _ => rfl)) (pa_cons (C8.pe_mt c_fitted hr (by omega) (pe_ix ix_list (pv 1) pe_int (fun _ _ => rfl)) (pa_cons (pe_glob rfl hINT rINT) pa_nil)) (pa_cons (C8.pe_mt c_fitted hr (by omega) (pe_ix ix_list (pv 1) pe_int (fun _ _ => rfl)) (pa_cons (pe_glob rfl hINT rINT) pa_nil)) pa_nil))))))
  (pss_cons (ps_if (pt_cmpR op_in_seq (pe_ix ix_tup (pv 0) pe_int (fun _ _ => rfl)) (pe_tup (pa_cons pe_str (pa_cons pe_str pa_nil))) (by rfl)) (pss_one (ps_ret (pe_tup (pa_cons (pv 3) (pa_cons (pe_glob rfl hBOOL rBOOL) pa_nil))))) pss_nil)
  (pss_one (ps_ret (pe_tup (pa_cons (pv 3) (pa_cons (pe_glob rfl hINT rINT) pa_nil))))))))))))), ?_⟩
  have h0' : ∀ H, wF Φ () H → H lp = some (.lst (as.map V.ref)) := h0
  have d0 : ∀ (x : Str) (l : List D), Sx.d e = .t (.s x :: l) → ED K (tOp (rIxT K) (tVar 0) (tC (.int 0))) [some (Sx.d e), some (.r lp), none, none, none] (.s x) := fun x l hl => ed_ix0 (l := .s x :: l) (ed_var (by rw [hl] <;> rfl)) rfl
  have opn : ∀ a p A', (∀ H, wF Φ () H → PartAt K H a p) → p.known = .bx A' → ht (.bx A') ≤ 10 → ROp2 K (wF Φ ()) [.r a, .t [.s "box", tS "any"]] (.t [Co.d p.core, Ty.d (.bx A')]) := fun a p A' hp hk hh => ⟨a, p, [tS "any"], (by rw [hk] <;> rfl), hp, (by rw [hk]; intro z; cases z), (by rw [hk]; exact hh), (by rw [hk])⟩
  rcases h with ⟨e1, a, p, rfl, rfl, hp, rfl⟩ | ⟨e1, a, p, z, rfl, rfl, hp, hz, rfl⟩ | ⟨e1, e2, a, b, p, q, z, rfl, rfl, hp, hq, hz, rfl⟩ | ⟨o, e1, e2, a, b, p, q, z, rfl, rfl, hp, hq, hz, rfl⟩
  · have hp' : ∀ H, wF Φ () H → PartAt K H a p := hp
    exact rr_sn (nm_nd (nd_asg (d0 "box" _ rfl))) (by walk_at "gr")
  · have hp' : ∀ H, wF Φ () H → PartAt K H a p := hp
    unfold getP at hz
    split at hz
    case h_2 => cases hz
    rename_i A' hk
    split at hz
    case isFalse => cases hz
    rename_i hh
    cases hz
    have q1 := opn a p A' hp hk hh
    refine rr_sn (nm_nd (nd_asg (d0 "get" _ rfl))) (rr_skip (by walk_at "gb") (rr_take (by walk_at "gb") (rr_sn (gn_up2 (x := Co.d p.core) (y := Ty.d (.bx A')) (ge_q (by walk_at "gs") q1)) (by walk_at "gr"))))
  · have hp' : ∀ H, wF Φ () H → PartAt K H a p := hp
    have hq' : ∀ H, wF Φ () H → PartAt K H b q := hq
    unfold putP at hz
    split at hz
    case h_2 => cases hz
    rename_i A' hk
    split at hz
    case isFalse => cases hz
    rename_i hh
    obtain ⟨x, hx, hz⟩ := Option.map_eq_some_iff.mp hz
    cases hz
    have q1 := opn a p A' hp hk hh
    have q2 : RFit K (wF Φ ()) [.r b, Ty.d A'] (Co.d x) := ⟨b, q, A', x, rfl, hq, hx, rfl⟩
    refine rr_sn (nm_nd (nd_asg (d0 "put" _ rfl))) (rr_skip (by walk_at "gb") (rr_skip (by walk_at "gb") (rr_take (by walk_at "gb") (rr_sn (gn_up2 (x := Co.d p.core) (y := Ty.d (.bx A')) (ge_q (by walk_at "gs") q1)) (by walk_at "gr")))))
  · have hp' : ∀ H, wF Φ () H → PartAt K H a p := hp
    have hq' : ∀ H, wF Φ () H → PartAt K H b q := hq
    obtain ⟨x, hx, hz⟩ := Option.bind_eq_some_iff.mp hz
    obtain ⟨y, hy, hz⟩ := Option.map_eq_some_iff.mp hz
    cases hz
    have q1 : RFit K (wF Φ ()) [.r a, Ty.d .int] (Co.d x) := ⟨a, p, .int, x, rfl, hp, hx, rfl⟩
    have q2 : RFit K (wF Φ ()) [.r b, Ty.d .int] (Co.d y) := ⟨b, q, .int, y, rfl, hq, hy, rfl⟩
    refine rr_sn (nm_nd (nd_asg (d0 "op" _ rfl))) (rr_skip (by walk_at "gb") (rr_skip (by walk_at "gb") (rr_skip (by walk_at "gb") (rr_skip (by walk_at "gb") (rr_skip (by walk_at "gb") ?_)))))
    have fa : GE K (wF Φ) (tMeth (CP K) "fitted" (spQ K (RFit K)) [] C8.E0 (tOp (rIxL K) (tVar 1) (tC (.int 0))) (tCons (tC vI) tNil)) [some (Sx.d (.op o e1 e2)), some (.r lp), some (.s "op"), none, none] () (Is (Co.d x) ()) :=
      ge_fit (ge_ixL0 (em_ed (ed_var rfl)) h0' rfl) hp' (ems_ed (es_cons (ed_c RI') es_nil)) q1
    have fb : GE K (wF Φ) (tMeth (CP K) "fitted" (spQ K (RFit K)) [] C8.E0 (tOp (rIxL K) (tVar 1) (tC (.int 1))) (tCons (tC vI) tNil)) [some (Sx.d (.op o e1 e2)), some (.r lp), some (.s "op"), none, none] () (Is (Co.d y) ()) :=
      ge_fit (ge_ixL1 (em_ed (ed_var rfl)) h0' rfl) hq' (ems_ed (es_cons (ed_c RI') es_nil)) q2
    refine rr_sn (nm_asg (i := 3) (d := Co.d (.op o x y)) (em_tup (l := [.s "op", .s (sg o), Co.d x, Co.d y]) (ems_cons (em_ed ed_s) (ems_cons (em_ed (by walk_at "ev")) (ems_cons fa (ems_cons fb ems_nil)))) (Nat.le_of_ble_eq_true rfl))) ?_
    cases o
    · refine rr_skip (bm_eb (eb_in (x := sg false) (ys := ["<", "=="]) (by walk_at "ev") (ed_tup (es_cons ed_s (es_cons ed_s es_nil)) (Nat.le_of_ble_eq_true rfl)) (by decide +kernel))) ?_
      exact rr_ret (em_ed (ed_tup (es_cons (ed_var rfl) (es_cons (ed_c RI') es_nil)) (Nat.le_of_ble_eq_true rfl)))
    · refine rr_take (bm_eb (eb_in (x := sg true) (ys := ["<", "=="]) (by walk_at "ev") (ed_tup (es_cons ed_s (es_cons ed_s es_nil)) (Nat.le_of_ble_eq_true rfl)) (by decide +kernel))) ?_
      exact rr_ret (em_ed (ed_tup (es_cons (ed_var rfl) (es_cons (ed_c RB') es_nil)) (Nat.le_of_ble_eq_true rfl)))
end
end Hn
end

/- HnW14 -/
section
set_option Elab.async false
set_option linter.all false
set_option maxRecDepth 100000
set_option maxHeartbeats 4000000
/-! Halfnoted: the checker in the heap. -/
namespace Hn
open PySem PySem.Spec PyProof.Rows L2 Evl
local macro_rules | `(tactic| walk_at "ev") => `(tactic| first
  | ((with_reducible show ED _ (tVar _) _ _); exact ed_var rfl)
  | ((with_reducible show ED _ (tC _) _ _); first | exact ed_s | exact ed_i | exact ed_b | exact ed_n | exact ed_c (by assumption))
  | ((with_reducible show ED _ (tOp (rIxT _) _ (tC (V.int 0))) _ _); refine' ed_ix0 ?k1 ?k2; (case k1 => walk_at "ev"); (case k2 => rfl))
  | ((with_reducible show ED _ (tOp (rIxT _) _ (tC (V.int 1))) _ _); refine' ed_ix1 ?k1 ?k2; (case k1 => walk_at "ev"); (case k2 => rfl))
  | ((with_reducible show ED _ (tOp (rIxT _) _ (tC (V.int 2))) _ _); refine' ed_ix2 ?k1 ?k2; (case k1 => walk_at "ev"); (case k2 => rfl))
  | ((with_reducible show ED _ (tOp (rIxT _) _ (tC (V.int 3))) _ _); refine' ed_ix3 ?k1 ?k2; (case k1 => walk_at "ev"); (case k2 => rfl))
  | ((with_reducible show ED _ (tOp (rIxT _) _ (tC (V.int 4))) _ _); refine' ed_ix4 ?k1 ?k2; (case k1 => walk_at "ev"); (case k2 => rfl))
  | ((with_reducible show ED _ (tOp (rIxT _) _ (tC (V.int 5))) _ _); refine' ed_ix5 ?k1 ?k2; (case k1 => walk_at "ev"); (case k2 => rfl))
  | ((with_reducible show ED _ (tOp (rIxT _) _ (tVar _)) _ _); first
    | (refine' ed_ixE (j := 1) ?k1 ?k2 ?k3 ?k4; (case k1 => walk_at "ev"); (case k2 => walk_at "ev"); (case k3 => rfl); (case k4 => first | rfl | decide))
    | (refine' ed_ixE (j := 2) ?k1 ?k2 ?k3 ?k4; (case k1 => walk_at "ev"); (case k2 => walk_at "ev"); (case k3 => rfl); (case k4 => first | rfl | decide)))
  | ((with_reducible show ED _ (tCB _ (tCons _ tNil)) _ _); refine' ed_len ?k1 ?k2; (case k1 => walk_at "ev"); (case k2 => rfl))
  | ((with_reducible show ED _ (tTup _) _ _); refine' ed_tup ?k1 ?k2; (case k1 => walk_at "es"); (case k2 => exact Nat.le_of_ble_eq_true rfl))
  | ((with_reducible show ED _ (tCall _ _ _ _) _ _); refine' ed_call ?k1 ?k2; (case k1 => walk_at "es"); (case k2 => walk_at "cl"))
  | ((with_reducible show ED _ (tCallN _ _ _ _ _ _ _) _ _); refine' ed_callK ?k1 ?k2 ?k3 ?k4 ?k5; (case k1 => walk_at "es"); (case k2 => walk_at "es"); (case k3 => walk_at "cl"); (case k4 => rfl); (case k5 => rfl))
  | ((with_reducible show ED _ (tOp (rI0 _) _ _) _ _); first
    | (refine' ed_add ?k1 ?k2; (case k1 => walk_at "ev"); (case k2 => walk_at "ev"))
    | (refine' ed_sub ?k1 ?k2; (case k1 => walk_at "ev"); (case k2 => walk_at "ev"))
    | (refine' ed_lt ?k1 ?k2; (case k1 => walk_at "ev"); (case k2 => walk_at "ev"))))
local macro_rules | `(tactic| walk_at "es") => `(tactic| first
  | ((with_reducible show EDs _ tNil _ _); exact es_nil)
  | ((with_reducible show EDs _ (tCons _ _) _ _); refine' es_cons ?k1 ?k2; (case k1 => walk_at "ev"); (case k2 => walk_at "es")))
local macro_rules | `(tactic| walk_at "eb") => `(tactic| first
  | ((with_reducible show EB _ (tTest (tOp rEq _ _)) _ _); refine' eb_eqS ?k1 ?k2 ?k3; (case k1 => walk_at "ev"); (case k2 => walk_at "ev"); (case k3 => first | decide +kernel | assumption))
  | ((with_reducible show EB _ (tTest (tOp rNe _ _)) _ _); refine' eb_neS ?k1 ?k2 ?k3; (case k1 => walk_at "ev"); (case k2 => walk_at "ev"); (case k3 => first | decide +kernel | assumption))
  | ((with_reducible show EB _ (tTest (tOp (rEqD _) _ _)) _ _); first
    | (refine' eb_ck ?k1 ?k2 ?k3 ?k4; (case k1 => walk_at "ev"); (case k2 => walk_at "ev"); (case k3 => first | rfl | decide +kernel | assumption); (case k4 => first | assumption | decide +kernel | omega))
    | (refine' eb_tyA ?k1 ?k2 ?k3 ?k4; (case k1 => walk_at "ev"); (case k2 => walk_at "ev"); (case k3 => first | rfl | decide +kernel | assumption); (case k4 => first | assumption | decide +kernel | omega))
    | (refine' eb_ty ?k1 ?k2 ?k3 ?k4 ?k5; (case k1 => walk_at "ev"); (case k2 => walk_at "ev"); (case k3 => first | assumption | rfl); (case k4 => first | assumption | decide +kernel | omega); (case k5 => first | assumption | decide +kernel | omega)))
  | ((with_reducible show EB _ (tTest (tOp (rIn _ _) _ _)) _ _); refine' eb_in ?k1 ?k2 ?k3; (case k1 => walk_at "ev"); (case k2 => walk_at "ev"); (case k3 => decide +kernel))
  | ((with_reducible show EB _ (tOr _ _) _ _); first
    | (refine' eb_or (b := true) ?k1 ?k2 ?k3; (case k1 => walk_at "eb"); (case k2 => intro z; cases z); (case k3 => intro _; rfl))
    | (refine' eb_or (b := false) ?k1 ?k2 ?k3; (case k1 => walk_at "eb"); (case k2 => intro _; walk_at "eb"); (case k3 => intro z; cases z)))
  | ((with_reducible show EB _ (tAnd _ _) _ _); first
    | (refine' eb_and (b := false) ?k1 ?k2 ?k3; (case k1 => walk_at "eb"); (case k2 => intro z; cases z); (case k3 => intro _; rfl))
    | (refine' eb_and (b := true) ?k1 ?k2 ?k3; (case k1 => walk_at "eb"); (case k2 => intro _; walk_at "eb"); (case k3 => intro z; cases z)))
  | ((with_reducible show EB _ (tNot _) _ _); first | (refine' eb_not (b := true) ?k1 rfl; (case k1 => walk_at "eb")) | (refine' eb_not (b := false) ?k1 rfl; (case k1 => walk_at "eb")))
  | ((with_reducible show EB _ (tB _) _ _); refine' eb_val ?k1; (case k1 => walk_at "ev")))
local macro_rules | `(tactic| walk_at "rd") => `(tactic| first
  | ((with_reducible show RD _ (tRet _) _ _); refine' rd_ret ?k1; (case k1 => walk_at "ev"))
  | ((with_reducible show RD _ (tSeq (tIfS _ _ tNext) _) _ _); (first
    | ((with_reducible refine' rd_skip ?k1 ?k2); (case k1 => walk_at "eb"))
    | ((with_reducible refine' rd_take ?k1 ?k2); (case k1 => walk_at "eb"))); (walk_at "rd"))
  | ((with_reducible show RD _ (tIfS _ _ _) _ _); (first
    | ((with_reducible refine' rd_yes ?k1 ?k2); (case k1 => walk_at "eb"))
    | ((with_reducible refine' rd_no ?k1 ?k2); (case k1 => walk_at "eb"))); (walk_at "rd"))
  | ((with_reducible show RD _ (tSeq _ _) _ _); (with_reducible refine' rd_sn ?k1 ?k2); (case k1 => walk_at "nd"); (case k2 => walk_at "rd")))
local macro_rules | `(tactic| walk_at "nd") => `(tactic| first
  | ((with_reducible show ND _ tNext _ _); exact nd_next)
  | ((with_reducible show ND _ (tAsg _ _) _ _); refine' nd_asg ?k1; (case k1 => walk_at "ev"))
  | ((with_reducible show ND _ (tIfS _ _ _) _ _); (first
    | ((with_reducible refine' nd_yes ?k1 ?k2); (case k1 => walk_at "eb"))
    | ((with_reducible refine' nd_no ?k1 ?k2); (case k1 => walk_at "eb"))); (walk_at "nd"))
  | ((with_reducible show ND _ (tSeq _ _) _ _); (with_reducible refine' nd_sn ?k1 ?k2); (case k1 => walk_at "nd"); (case k2 => walk_at "nd")))
local macro_rules | `(tactic| walk_at "cl") => `(tactic| first | assumption | skip)
abbrev CK (K : PySem.W.Frag) : Addr := He.ga K "Checker"
def cf (n : Int) : List (Str × V) := [("count", .int n)]
theorem cf_count (n : Int) : (cf n).lookup ("count" : Str) = some (V.int n) := by kernel_rfl
theorem cf_put (n m : Int) : putF "count" (.int m) (cf n) = cf m := by kernel_rfl
theorem cf_part (n : Int) : (cf n).lookup ("part" : Str) = none := by kernel_rfl
theorem cf_elaborated (n : Int) : (cf n).lookup ("elaborated" : Str) = none := by kernel_rfl
theorem cf_binder (n : Int) : (cf n).lookup ("binder" : Str) = none := by kernel_rfl
/-- lists and parts and tuples stay as they are -/
structure Sta (K : PySem.W.Frag) (H H' : Hp) : Prop where
  tm : Tm K H H'
  li : ∀ a xs, H a = some (.lst xs) → H' a = some (.lst xs)
  pa : ∀ a dx n x y, H a = some (.ins (CP K) dx (pf n x y)) → H' a = some (.ins (CP K) dx (pf n x y))
section
variable {K : PySem.W.Frag} {H H1 H2 H' : Hp}
theorem Sta.refl : Sta K H H := ⟨Tm.refl, fun _ _ h => h, fun _ _ _ _ _ h => h⟩
theorem Sta.trans (a : Sta K H H1) (b : Sta K H1 H2) : Sta K H H2 := ⟨a.tm.trans b.tm, fun _ _ h => b.li _ _ (a.li _ _ h), fun _ _ _ _ _ h => b.pa _ _ _ _ _ (a.pa _ _ _ _ _ h)⟩
theorem Sta.ex (e : Ex H H1) : Sta K H H1 := ⟨Tm.ex e, fun _ _ h => e _ _ h, fun _ _ _ _ _ h => e _ _ h⟩
theorem PartAt.sta {a : Addr} {p : Pt} (h : PartAt K H a p) (e : Sta K H H') : PartAt K H' a p := by
  obtain ⟨dx, x, y, h1, h2, h3⟩ := h
  exact ⟨dx, x, y, e.pa _ _ _ _ _ h1, h2.mono e.tm, h3.mono e.tm⟩
theorem EnvAt.sta {p : Addr} {en : TEn} (h : EnvAt K H p en) (e : Sta K H H') : EnvAt K H' p en := by
  obtain ⟨xs, h1, h2⟩ := h
  exact ⟨xs, e.li _ _ h1, h2.mono e.tm⟩
theorem sta_cnt {c dx : Addr} {n m : Int} (h : H c = some (.ins (CK K) dx (cf n))) : Sta K H (upd H c (.ins (CK K) dx (cf m))) := by
  refine ⟨tm_ins h, fun a xs z => ?_, fun a dx' k x y z => ?_⟩
  · rw [upd_ne (ne_of z h fun k => by cases k)]; exact z
  · rw [upd_ne (ne_of z h fun k => by injection k with _ _ h1; injection h1 with _ h2; cases h2)]; exact z
end
abbrev CS := Int × (Hp → Prop)
def CWd (K : PySem.W.Frag) (c : Addr) (s : CS) (H : Hp) : Prop := (∃ dx, H c = some (.ins (CK K) dx (cf s.1))) ∧ s.2 H ∧ ∀ H1 H2, s.2 H1 → Sta K H1 H2 → s.2 H2
instance {K : PySem.W.Frag} {c : Addr} : Gr (CWd K c) := ⟨fun e ⟨⟨dx, h⟩, h2, h3⟩ => ⟨⟨dx, e _ _ h⟩, h3 _ _ h2 (Sta.ex e), h3⟩⟩
/-- a checker's method's promise -/
def spC (K : PySem.W.Frag) (R : CS → List D → (D → CS → Prop) → Prop) : Sp := fun vs H Q _ => ∃ c s l P vs', vs = .ref c :: vs' ∧ Reps K H l vs' ∧ CWd K c s H ∧ R s l P ∧ ∀ v H' d s', P d s' → Tm K H H' → CWd K c s' H' → Rep K H' d v → Q v H'
section
variable {K : PySem.W.Frag} {c : Addr} {te ta : TE} {tt tu : TT} {t u w : TS} {as ar : TA} {ds ds' ds2 : Lo} {s s1 s2 : CS} {P P2 : D → CS → Prop} {d e : D} {l : List D} {i j : Nat} {w0 : World} {mg : Str → Option Value}
theorem ce_count (T : Tx w0 K mg) (hi : ds[i]? = some (some (.r c))) : GE K (CWd K c) (tFld K (tVar i) "count") ds s (Is (.i s.1) s) := fun σ H L W Q q => by
  obtain ⟨⟨dx, h⟩, _⟩ := id W
  exact ⟨_, slf L hi, c, _, dx, _, _, rfl, h, cl_Checker T, na_Checker_count T, cf_count _, q _ H _ _ ⟨rfl, rfl⟩ Tm.refl W rfl⟩
theorem cn_count (T : Tx w0 K mg) (hi : ds[i]? = some (some (.r c))) : GN K (CWd K c) (sFldAug K (tVar i) (tC (.int 1)) rAdd "count") ds s ds (s.1 + 1, s.2) := fun D σ H L W q => by
  obtain ⟨⟨dx, h⟩, h2, h3⟩ := id W
  refine ⟨_, slf L hi, c, _, dx, _, _, rfl, h, cl_Checker T, na_Checker_count T, cf_count _, s.1, 1, rfl, rfl, dx, _, h, (by show 1 < 1000; decide), ?_⟩
  rw [cf_put]
  have st := sta_cnt (m := s.1 + 1) h
  exact q _ _ st.tm ⟨⟨dx, upd_same⟩, h3 _ _ h2 st, h3⟩ (L.mono st.tm)
theorem ce_meth {R : CS → List D → (D → CS → Prop) → Prop} {E : XK} {name : Str} (hm : ∀ n, (cf n).lookup name = none) (hi : ds[i]? = some (some (.r c))) (h : GEs K (CWd K c) as ds s l s1) (hr : R s1 l P) :
    GE K (CWd K c) (tMeth (CK K) name (spC K R) [] E (tVar i) as) ds s P := fun σ H L W Q q => by
  obtain ⟨⟨dx, h1⟩, _⟩ := id W
  refine ⟨_, slf L hi, c, dx, _, rfl, h1, hm _, h σ H L W _ fun vs H' tm W' r => ?_⟩
  exact ⟨c, s1, l, P, vs, by rw [List.append_nil], r, W', hr, fun v H2 d st' p tm2 W2 r2 => q v H2 d st' p (tm.trans tm2) W2 r2⟩
theorem ce_Part {E : XK} {n : Int} {co : Co} {A : Ty} (h : GEs K (CWd K c) as ds s [.i n, Co.d co, Ty.d A] s1) :
    GE K (CWd K c) (tMake (CP K) (spPart K) [] E as) ds s (fun d s' => ∃ a, d = .r a ∧ s' = (s1.1, fun H => s1.2 H ∧ PartAt K H a ⟨n, co, A⟩)) := fun σ H L W Q q => h σ H L W _ fun vs H1 tm W1 r => by
  intro x dx nx ndx nex
  obtain ⟨v0, r0, rfl, e0, v1, r1, rfl, e1, v2, r2, rfl, e2, e3⟩ := r
  have e0' : v0 = .int n := e0
  have e3' : r2 = [] := e3
  subst e0' e3'
  refine ⟨x, dx, n, v1, v2, by rw [List.append_nil], upd_same, rfl, ?_⟩
  rw [upd_upd]
  have nxd : upd H1 dx (.own x) x = none := by rw [upd_ne (fun z => nex z.symm)]; exact nx
  have ee : Ex H1 (upd (upd H1 dx (.own x)) x (.ins (CP K) dx (pf n v1 v2))) := (Ex.new ndx).trans (Ex.new nxd)
  obtain ⟨h1, h2, h3⟩ := Gr.g ee W1
  exact q _ _ _ _ ⟨x, rfl, rfl⟩ (tm.trans (Tm.ex ee)) ⟨h1, ⟨h2, dx, v1, v2, upd_same, e1.ex ee, e2.ex ee⟩, fun Ha Hb z st => ⟨h3 _ _ z.1 st, z.2.sta st⟩⟩ rfl
theorem rr_asgE (h : GE K (CWd K c) te ds s P) (hu : ∀ d s1, P d s1 → GR K (CWd K c) u (ds.set i (some d)) s1 P2) : GR K (CWd K c) (tSeq (tAsg te (gName i)) u) ds s P2 := fun D σ H L W q =>
  h σ H L W _ fun v H' d st' p tm W' r => hu d st' p D _ H' ((L.mono tm).set r i) W' fun v2 H2 d2 s2 p2 tm2 W2 r2 => q v2 H2 d2 s2 p2 (tm.trans tm2) W2 r2
theorem gn_up4 {x y z a : D} {i1 i2 i3 i4 : Nat} (h : GE K (CWd K c) te ds s (Is (.t [x, y, z, a]) s1)) : GN K (CWd K c) (tAsg te (gTup K 4 (gCons (gName i1) (gCons (gName i2) (gCons (gName i3) (gCons (gName i4) gNil)))))) ds s ((((ds.set i1 (some x)).set i2 (some y)).set i3 (some z)).set i4 (some a)) s1 := fun D' σ H L W q => h σ H L W _ fun v H' d' st' k tm W' r => by
  obtain ⟨rfl, rfl⟩ := k
  obtain ⟨t, xs, rfl, ht, hr⟩ := r
  obtain ⟨x1, r1, rfl, rx, x2, r2, rfl, ry, x3, r3, rfl, rz, x4, r4, rfl, ra, e⟩ := hr
  have e' : r4 = [] := e
  subst e'
  exact ⟨t, _, rfl, ht, rfl, x1, _, rfl, x2, _, rfl, x3, _, rfl, x4, [], rfl, rfl, q _ H' tm W' (((((L.mono tm).set rx i1).set ry i2).set rz i3).set ra i4)⟩
theorem gn_up6 {x y z a b f : D} {i1 i2 i3 i4 i5 i6 : Nat} (h : GE K (CWd K c) te ds s (Is (.t [x, y, z, a, b, f]) s1)) : GN K (CWd K c) (tAsg te (gTup K 6 (gCons (gName i1) (gCons (gName i2) (gCons (gName i3) (gCons (gName i4) (gCons (gName i5) (gCons (gName i6) gNil)))))))) ds s ((((((ds.set i1 (some x)).set i2 (some y)).set i3 (some z)).set i4 (some a)).set i5 (some b)).set i6 (some f)) s1 := fun D' σ H L W q => h σ H L W _ fun v H' d' st' k tm W' r => by
  obtain ⟨rfl, rfl⟩ := k
  obtain ⟨t, xs, rfl, ht, hr⟩ := r
  obtain ⟨x1, r1, rfl, rx, x2, r2, rfl, ry, x3, r3, rfl, rz, x4, r4, rfl, ra, x5, r5, rfl, rb, x6, r6, rfl, rf, e⟩ := hr
  have e' : r6 = [] := e
  subst e'
  exact ⟨t, _, rfl, ht, rfl, x1, _, rfl, x2, _, rfl, x3, _, rfl, x4, _, rfl, x5, _, rfl, x6, [], rfl, rfl, q _ H' tm W' (((((((L.mono tm).set rx i1).set ry i2).set rz i3).set ra i4).set rb i5).set rf i6)⟩
/-! ### part, elaborated, binder: what they promise -/
def RPa (K : PySem.W.Frag) (n : Nat) : CS → List D → (D → CS → Prop) → Prop := fun s l P => ∃ e p en pt m, l = [Sx.d e, .r p] ∧ dep e ≤ n ∧ en.length + 2 * dep e ≤ 900 ∧ (∀ H, s.2 H → EnvAt K H p en) ∧ el e en s.1 = some (pt, m) ∧ P = fun d s' => ∃ a, d = .r a ∧ s' = (m, fun H => s.2 H ∧ PartAt K H a pt)
def REl (K : PySem.W.Frag) (n : Nat) : CS → List D → (D → CS → Prop) → Prop := fun s l P => ∃ e p en pt m c0, l = [Sx.d e, .r p] ∧ dep e ≤ n ∧ en.length + 2 * dep e ≤ 900 ∧ (∀ H, s.2 H → EnvAt K H p en) ∧ s.1 = c0 + 1 ∧ el e en c0 = some (pt, m) ∧ P = Is (.t [Co.d pt.core, Ty.d pt.known]) (m, s.2)
theorem cons_env {H : Hp} {p : Addr} {en new : TEn} {xs ys : List V} (h : H p = some (.lst xs)) (r : Reps K H (en.reverse.map enD) xs) (hn : Reps K H (new.reverse.map enD) ys) : Reps K H ((new ++ en).reverse.map enD) (xs ++ ys) := by
  rw [List.reverse_append, List.map_append]
  exact r.app hn
/-- self.part(body, env + [..]) -/
theorem ce_partE {E : XK} {n : Nat} {en new : TEn} {p : Addr} {b : Sx} {pt : Pt} {m : Int} (hi : ds[0]? = some (some (.r c))) (hb : ds[j]? = some (some (Sx.d b))) (he : ds[2]? = some (some (.r p))) (hp : ∀ H, s.2 H → EnvAt K H p en) (h : GEs K (CWd K c) as ds s (new.reverse.map enD) s) (hd : dep b ≤ n) (hl : en.length + new.length + 2 * dep b ≤ 900) (hel : el b (new ++ en) s.1 = some (pt, m)) :
    GE K (CWd K c) (tMeth (CK K) "part" (spC K (RPa K n)) [] E (tVar 0) (tCons (tVar j) (tCons (tOp rCat (tVar 2) (tLst as)) tNil))) ds s (fun d s' => ∃ a q, d = .r a ∧ s' = (m, fun H => (s.2 H ∧ EnvAt K H q (new ++ en)) ∧ PartAt K H a pt)) := fun σ H L W Q q => by
  obtain ⟨⟨dx, h1⟩, _⟩ := id W
  obtain ⟨vb, hvb, rb⟩ := L.get hb
  refine ⟨_, slf L hi, c, dx, _, rfl, h1, cf_part _, vb, hvb, _, slf L he, h σ H L W _ fun ys H2 tm W2 ry => ⟨?_, fun t nt => ?_⟩⟩
  · rw [ry.len, List.length_map, List.length_reverse]; exact Nat.le_of_lt (small1000 (by omega))
  obtain ⟨xs, hx, rx⟩ := hp _ W2.2.1
  have et : Ex H2 (upd H2 t (.lst ys)) := Ex.new nt
  refine ⟨p, t, xs, ys, rfl, rfl, et _ _ hx, upd_same, ?_, fun z nz => ?_⟩
  · rw [ry.len, rx.len, List.length_map, List.length_reverse, List.length_map, List.length_reverse]; exact Nat.le_of_lt (small1000 (by omega))
  have ez : Ex (upd H2 t (.lst ys)) (upd (upd H2 t (.lst ys)) z (.lst (xs ++ ys))) := Ex.new nz
  have e2 := et.trans ez
  obtain ⟨w1, w2, w3⟩ := Gr.g e2 W2
  have tm2 : Tm K H (upd (upd H2 t (.lst ys)) z (.lst (xs ++ ys))) := tm.trans (Tm.ex e2)
  have envz : EnvAt K (upd (upd H2 t (.lst ys)) z (.lst (xs ++ ys))) z (new ++ en) := ⟨_, upd_same, (cons_env hx rx ry).mono (Tm.ex e2)⟩
  exact ⟨c, (s.1, fun H => s.2 H ∧ EnvAt K H z (new ++ en)), [Sx.d b, .r z], _, _, by rw [List.append_nil], .cons (rb.mono tm2) (.cons rfl .nil), ⟨w1, ⟨w2, envz⟩, fun Ha Hb k st => ⟨w3 _ _ k.1 st, k.2.sta st⟩⟩,
    ⟨b, z, new ++ en, pt, m, rfl, hd, by rw [List.length_append]; omega, fun _ k => k.2, hel, rfl⟩, fun v H3 d3 s3 k tm3 W3 r3 => by
      obtain ⟨a, rfl, rfl⟩ := k
      exact q v H3 _ _ ⟨a, z, rfl, rfl⟩ (tm2.trans tm3) W3 r3⟩
end
section
variable {P : Program} {w : World} {K : PySem.W.Frag} {mg : Str → Option Value} {base : Heap}
theorem ok_cr {x qual : Str} {params : Arguments} {body : List Stmt} {scope : Scope} {f : Addr} {fd : FuncData} {N ps : List Str} {k : Nat} {R : CS → List D → (D → CS → Prop) → Prop} (F : FunD K x qual params body scope [] [] f fd) (S : FnScope N ps scope)
    (len : ∀ st l Po, R st l Po → l.length + 1 = ps.length)
    (hb : ∀ (cdv : Value) (A : Around) (outer : List Env) (s : Shared) (H : Hp) (E : XK) (c : Addr) (st : CS) (l : List D) (Po : D → CS → Prop), Room k (A.deeper (envOfC qual scope s.heap.objs.size f cdv)) → R st l Po →
      ∃ t P', PSs (cxOf C8.CX0 P w K mg base N qual scope f cdv A outer s H E).nox body t ∧ GR K (CWd K c) t (some (.r c) :: (l.map some ++ List.replicate (N.length - ps.length) none)) st P' ∧
        ∀ d s', P' d s' → ∃ s'', Po d s'' ∧ s''.1 = s'.1 ∧ (∀ H, s'.2 H → s''.2 H) ∧ ((∀ H1 H2, st.2 H1 → Sta K H1 H2 → st.2 H2) → ∀ H1 H2, s''.2 H1 → Sta K H1 H2 → s''.2 H2)) : FnOk P w K mg base C8.CX0 (k + 1) f fd ps (spC K R) := by
  refine F.ok S (fun vs H Q E h => ?_) fun cdv A outer s H vs Q E hr h => ?_
  · obtain ⟨c, st, l, Po, vs', rfl, h2, _, h4, _⟩ := h
    rw [List.length_cons, h2.len]; exact len st l Po h4
  · obtain ⟨c, st, l, Po, vs', rfl, h2, h3, h4, h5⟩ := h
    obtain ⟨t, P', ht, hd, hw⟩ := hb cdv A outer s H E c st l Po hr h4
    refine ⟨t, ht.nox, hd _ _ _ ?_ h3 fun v H' d s' p tm W' r => ?_⟩
    · unfold L2.start
      rw [List.length_cons, h2.len, len st l Po h4]
      exact ⟨rfl, lo_start _ h2⟩
    · obtain ⟨s'', p2, e1, e2, e3⟩ := hw d s' p
      obtain ⟨⟨dx, w1⟩, w2, w3⟩ := W'
      exact h5 v H' d s'' p2 tm ⟨⟨dx, by rw [e1]; exact w1⟩, e2 _ w2, e3 h3.2.2⟩ r
theorem el_num {e : Sx} {en : TEn} {c : Int} {pt : Pt} {m : Int} (h : el e en c = some (pt, m)) : pt.num = c := by
  cases e <;> simp only [el, Option.bind_eq_some_iff, Option.map_eq_some_iff, Option.some.injEq, Prod.mk.injEq] at h <;> grind
theorem ok_part (T : Tx w K mg) {n k : Nat} (hk : 2 ≤ k) (c_elaborated : C8.Met P w K mg base k (CK K) "elaborated" (spC K (REl K n)) []) : C8.Met P w K mg base (k + 1) (CK K) "part" (spC K (RPa K n)) [] := by
  have c_Part := ok_Part (P := P) (base := base) T
  refine mk_Checker_part T fun fd F => ok_cr F sc_Checker_part (fun st l Po h => by obtain ⟨e, p, en, pt, m, rfl, _⟩ := h; rfl) fun cdv A outer s H E c st l Po hr h => ?_
  obtain ⟨e, p, en, pt, m, rfl, h1, h2, h3, h4, rfl⟩ := h
  refine ⟨_, _, (pss_cons (ps_set (i := 3) sc_Checker_part.nd rfl (Or.inl rfl) (pe_fld (pv 0) rfl))
  (pss_cons (ps_fldaug (pv 0) pe_int in_add)
  (pss_cons (ps_asg (C8.pe_mt c_elaborated hr (by omega) (pv 0) (pa_cons (pv 1) (pa_cons (pv 2) pa_nil))) (pg_tup rfl (pgs_cons (pg_name (i := 4) sc_Checker_part.nd rfl (Or.inl rfl)) (pgs_cons (pg_name (i := 5) sc_Checker_part.nd rfl (Or.inl rfl)) pgs_nil))))
  (pss_one (ps_ret (C8.pe_mk c_Part hr (by omega) rfl (pa_cons (pv 3) (pa_cons (pv 4) (pa_cons (pv 5) pa_nil))))))))), rr_sn (nm_asg (ce_count T rfl)) (rr_sn (cn_count T rfl) (rr_sn (gn_up2 (ce_meth cf_elaborated rfl (ems_ed (es_cons (ed_var rfl) (es_cons (ed_var rfl) es_nil))) ⟨e, p, en, pt, m, st.1, rfl, h1, h2, h3, rfl, h4, rfl⟩))
    (rr_ret (ce_Part (ems_ed (es_cons (ed_var rfl) (es_cons (ed_var rfl) (es_cons (ed_var rfl) es_nil)))))))), fun d s' k => ?_⟩
  obtain ⟨a, rfl, rfl⟩ := k
  refine ⟨_, ⟨a, rfl, rfl⟩, rfl, fun H z => ?_, fun hs H1 H2 z st => ⟨hs _ _ z.1 st, z.2.sta st⟩⟩
  have hn := el_num h4
  obtain ⟨z1, z2⟩ := z
  refine ⟨z1, ?_⟩
  rw [← hn] at z2
  exact z2
end
end Hn
end

/- HnW15 -/
section
set_option Elab.async false
set_option linter.all false
set_option maxRecDepth 100000
set_option maxHeartbeats 4000000
namespace Hn
open PySem PySem.Spec PyProof.Rows L2 Evl
local macro_rules | `(tactic| walk_at "ev") => `(tactic| first
  | ((with_reducible show ED _ (tVar _) _ _); exact ed_var rfl)
  | ((with_reducible show ED _ (tC _) _ _); first | exact ed_s | exact ed_i | exact ed_b | exact ed_n | exact ed_c (by assumption))
  | ((with_reducible show ED _ (tOp (rIxT _) _ (tC (V.int 0))) _ _); refine' ed_ix0 ?k1 ?k2; (case k1 => walk_at "ev"); (case k2 => rfl))
  | ((with_reducible show ED _ (tOp (rIxT _) _ (tC (V.int 1))) _ _); refine' ed_ix1 ?k1 ?k2; (case k1 => walk_at "ev"); (case k2 => rfl))
  | ((with_reducible show ED _ (tOp (rIxT _) _ (tC (V.int 2))) _ _); refine' ed_ix2 ?k1 ?k2; (case k1 => walk_at "ev"); (case k2 => rfl))
  | ((with_reducible show ED _ (tOp (rIxT _) _ (tC (V.int 3))) _ _); refine' ed_ix3 ?k1 ?k2; (case k1 => walk_at "ev"); (case k2 => rfl))
  | ((with_reducible show ED _ (tOp (rIxT _) _ (tC (V.int 4))) _ _); refine' ed_ix4 ?k1 ?k2; (case k1 => walk_at "ev"); (case k2 => rfl))
  | ((with_reducible show ED _ (tOp (rIxT _) _ (tC (V.int 5))) _ _); refine' ed_ix5 ?k1 ?k2; (case k1 => walk_at "ev"); (case k2 => rfl))
  | ((with_reducible show ED _ (tOp (rIxT _) _ (tVar _)) _ _); first
    | (refine' ed_ixE (j := 1) ?k1 ?k2 ?k3 ?k4; (case k1 => walk_at "ev"); (case k2 => walk_at "ev"); (case k3 => rfl); (case k4 => first | rfl | decide))
    | (refine' ed_ixE (j := 2) ?k1 ?k2 ?k3 ?k4; (case k1 => walk_at "ev"); (case k2 => walk_at "ev"); (case k3 => rfl); (case k4 => first | rfl | decide)))
  | ((with_reducible show ED _ (tCB _ (tCons _ tNil)) _ _); refine' ed_len ?k1 ?k2; (case k1 => walk_at "ev"); (case k2 => rfl))
  | ((with_reducible show ED _ (tTup _) _ _); refine' ed_tup ?k1 ?k2; (case k1 => walk_at "es"); (case k2 => exact Nat.le_of_ble_eq_true rfl))
  | ((with_reducible show ED _ (tCall _ _ _ _) _ _); refine' ed_call ?k1 ?k2; (case k1 => walk_at "es"); (case k2 => walk_at "cl"))
  | ((with_reducible show ED _ (tCallN _ _ _ _ _ _ _) _ _); refine' ed_callK ?k1 ?k2 ?k3 ?k4 ?k5; (case k1 => walk_at "es"); (case k2 => walk_at "es"); (case k3 => walk_at "cl"); (case k4 => rfl); (case k5 => rfl))
  | ((with_reducible show ED _ (tOp (rI0 _) _ _) _ _); first
    | (refine' ed_add ?k1 ?k2; (case k1 => walk_at "ev"); (case k2 => walk_at "ev"))
    | (refine' ed_sub ?k1 ?k2; (case k1 => walk_at "ev"); (case k2 => walk_at "ev"))
    | (refine' ed_lt ?k1 ?k2; (case k1 => walk_at "ev"); (case k2 => walk_at "ev"))))
local macro_rules | `(tactic| walk_at "es") => `(tactic| first
  | ((with_reducible show EDs _ tNil _ _); exact es_nil)
  | ((with_reducible show EDs _ (tCons _ _) _ _); refine' es_cons ?k1 ?k2; (case k1 => walk_at "ev"); (case k2 => walk_at "es")))
local macro_rules | `(tactic| walk_at "eb") => `(tactic| first
  | ((with_reducible show EB _ (tTest (tOp rEq _ _)) _ _); refine' eb_eqS ?k1 ?k2 ?k3; (case k1 => walk_at "ev"); (case k2 => walk_at "ev"); (case k3 => first | decide +kernel | assumption))
  | ((with_reducible show EB _ (tTest (tOp rNe _ _)) _ _); refine' eb_neS ?k1 ?k2 ?k3; (case k1 => walk_at "ev"); (case k2 => walk_at "ev"); (case k3 => first | decide +kernel | assumption))
  | ((with_reducible show EB _ (tTest (tOp (rEqD _) _ _)) _ _); first
    | (refine' eb_ck ?k1 ?k2 ?k3 ?k4; (case k1 => walk_at "ev"); (case k2 => walk_at "ev"); (case k3 => first | rfl | decide +kernel | assumption); (case k4 => first | assumption | decide +kernel | omega))
    | (refine' eb_tyA ?k1 ?k2 ?k3 ?k4; (case k1 => walk_at "ev"); (case k2 => walk_at "ev"); (case k3 => first | rfl | decide +kernel | assumption); (case k4 => first | assumption | decide +kernel | omega))
    | (refine' eb_ty ?k1 ?k2 ?k3 ?k4 ?k5; (case k1 => walk_at "ev"); (case k2 => walk_at "ev"); (case k3 => first | assumption | rfl); (case k4 => first | assumption | decide +kernel | omega); (case k5 => first | assumption | decide +kernel | omega)))
  | ((with_reducible show EB _ (tTest (tOp (rIn _ _) _ _)) _ _); refine' eb_in ?k1 ?k2 ?k3; (case k1 => walk_at "ev"); (case k2 => walk_at "ev"); (case k3 => decide +kernel))
  | ((with_reducible show EB _ (tOr _ _) _ _); first
    | (refine' eb_or (b := true) ?k1 ?k2 ?k3; (case k1 => walk_at "eb"); (case k2 => intro z; cases z); (case k3 => intro _; rfl))
    | (refine' eb_or (b := false) ?k1 ?k2 ?k3; (case k1 => walk_at "eb"); (case k2 => intro _; walk_at "eb"); (case k3 => intro z; cases z)))
  | ((with_reducible show EB _ (tAnd _ _) _ _); first
    | (refine' eb_and (b := false) ?k1 ?k2 ?k3; (case k1 => walk_at "eb"); (case k2 => intro z; cases z); (case k3 => intro _; rfl))
    | (refine' eb_and (b := true) ?k1 ?k2 ?k3; (case k1 => walk_at "eb"); (case k2 => intro _; walk_at "eb"); (case k3 => intro z; cases z)))
  | ((with_reducible show EB _ (tNot _) _ _); first | (refine' eb_not (b := true) ?k1 rfl; (case k1 => walk_at "eb")) | (refine' eb_not (b := false) ?k1 rfl; (case k1 => walk_at "eb")))
  | ((with_reducible show EB _ (tB _) _ _); refine' eb_val ?k1; (case k1 => walk_at "ev")))
local macro_rules | `(tactic| walk_at "rd") => `(tactic| first
  | ((with_reducible show RD _ (tRet _) _ _); refine' rd_ret ?k1; (case k1 => walk_at "ev"))
  | ((with_reducible show RD _ (tSeq (tIfS _ _ tNext) _) _ _); (first
    | ((with_reducible refine' rd_skip ?k1 ?k2); (case k1 => walk_at "eb"))
    | ((with_reducible refine' rd_take ?k1 ?k2); (case k1 => walk_at "eb"))); (walk_at "rd"))
  | ((with_reducible show RD _ (tIfS _ _ _) _ _); (first
    | ((with_reducible refine' rd_yes ?k1 ?k2); (case k1 => walk_at "eb"))
    | ((with_reducible refine' rd_no ?k1 ?k2); (case k1 => walk_at "eb"))); (walk_at "rd"))
  | ((with_reducible show RD _ (tSeq _ _) _ _); (with_reducible refine' rd_sn ?k1 ?k2); (case k1 => walk_at "nd"); (case k2 => walk_at "rd")))
local macro_rules | `(tactic| walk_at "nd") => `(tactic| first
  | ((with_reducible show ND _ tNext _ _); exact nd_next)
  | ((with_reducible show ND _ (tAsg _ _) _ _); refine' nd_asg ?k1; (case k1 => walk_at "ev"))
  | ((with_reducible show ND _ (tIfS _ _ _) _ _); (first
    | ((with_reducible refine' nd_yes ?k1 ?k2); (case k1 => walk_at "eb"))
    | ((with_reducible refine' nd_no ?k1 ?k2); (case k1 => walk_at "eb"))); (walk_at "nd"))
  | ((with_reducible show ND _ (tSeq _ _) _ _); (with_reducible refine' nd_sn ?k1 ?k2); (case k1 => walk_at "nd"); (case k2 => walk_at "nd")))
local macro_rules | `(tactic| walk_at "cl") => `(tactic| first | assumption | skip)
local macro_rules | `(tactic| walk_at "gv") => `(tactic| first
  | (refine' em_ed ?k1; (case k1 => walk_at "ev"))
  | ((with_reducible show GE _ _ (tFld _ _ _) _ _ _); first
    | (refine' ge_known ?kT ?k1 ?k2; (case kT => assumption); (case k1 => walk_at "gv"); (case k2 => assumption))
    | (refine' ge_core ?kT ?k1 ?k2; (case kT => assumption); (case k1 => walk_at "gv"); (case k2 => assumption))
    | (refine' ge_num ?kT ?k1 ?k2; (case kT => assumption); (case k1 => walk_at "gv"); (case k2 => assumption)))
  | ((with_reducible show GE _ _ (tOp (rIxL _) _ (tC (V.int 0))) _ _ _); refine' ge_ixL0 ?k1 ?k2 ?k3; (case k1 => walk_at "gv"); (case k2 => assumption); (case k3 => rfl))
  | ((with_reducible show GE _ _ (tOp (rIxL _) _ (tC (V.int 1))) _ _ _); refine' ge_ixL1 ?k1 ?k2 ?k3; (case k1 => walk_at "gv"); (case k2 => assumption); (case k3 => rfl))
  | ((with_reducible show GE _ _ (tOp (rIxL _) _ (tC (V.int 2))) _ _ _); refine' ge_ixL2 ?k1 ?k2 ?k3; (case k1 => walk_at "gv"); (case k2 => assumption); (case k3 => rfl))
  | ((with_reducible show GE _ _ (tOp (rIxT _) _ (tC (V.int 0))) _ _ _); refine' ge_ix0 ?k1 ?k2; (case k1 => walk_at "gv"); (case k2 => rfl))
  | ((with_reducible show GE _ _ (tOp (rIxT _) _ (tC (V.int 1))) _ _ _); refine' ge_ix1 ?k1 ?k2; (case k1 => walk_at "gv"); (case k2 => rfl))
  | ((with_reducible show GE _ _ (tOp (rIxT _) _ (tC (V.int 2))) _ _ _); refine' ge_ix2 ?k1 ?k2; (case k1 => walk_at "gv"); (case k2 => rfl))
  | ((with_reducible show GE _ _ (tTup _) _ _ _); refine' em_tup ?k1 ?k2; (case k1 => walk_at "gs"); (case k2 => exact Nat.le_of_ble_eq_true rfl))
  | ((with_reducible show GE _ _ (tMeth _ _ _ _ _ _ _) _ _ _); refine' ge_fit ?k1 ?k2 ?k3 ?k4; (case k1 => walk_at "gv"); (case k2 => assumption); (case k3 => walk_at "gs"); (case k4 => walk_at "cl"))
  | ((with_reducible show GE _ _ (tCall (spQ _ _) _ _ _) _ _ _); refine' ge_q ?k1 ?k2; (case k1 => walk_at "gs"); (case k2 => walk_at "cl"))
  | ((with_reducible show GE _ _ (tCall (spD _ _) _ _ _) _ _ _); refine' em_call ?k1 ?k2; (case k1 => walk_at "gs"); (case k2 => walk_at "cl")))
local macro_rules | `(tactic| walk_at "gs") => `(tactic| first
  | ((with_reducible show GEs _ _ tNil _ _ _ _); exact ems_nil)
  | ((with_reducible show GEs _ _ (tCons _ _) _ _ _ _); refine' ems_cons ?k1 ?k2; (case k1 => walk_at "gv"); (case k2 => walk_at "gs")))
local macro_rules | `(tactic| walk_at "gb") => `(tactic| first
  | (refine' bm_eb ?k1; (case k1 => walk_at "eb"))
  | ((with_reducible show GB _ _ (tTest (tOp (rEqD _) _ _)) _ _ _ _); first
    | (refine' gb_tyA ?k1 ?k2 ?k3 ?k4; (case k1 => walk_at "gv"); (case k2 => walk_at "gv"); (case k3 => first | rfl | decide +kernel | assumption); (case k4 => first | assumption | decide +kernel | omega))
    | (refine' gb_ty ?k1 ?k2 ?k3 ?k4 ?k5; (case k1 => walk_at "gv"); (case k2 => walk_at "gv"); (case k3 => first | assumption | rfl); (case k4 => first | assumption | decide +kernel | omega); (case k5 => first | assumption | decide +kernel | omega)))
  | ((with_reducible show GB _ _ (tTest (tOp rNe _ _)) _ _ _ _); refine' gb_neS ?k1 ?k2 ?k3; (case k1 => walk_at "gv"); (case k2 => walk_at "gv"); (case k3 => first | decide +kernel | assumption))
  | ((with_reducible show GB _ _ (tNot _) _ _ _ _); first | (refine' bm_not (b := true) ?k1 rfl; (case k1 => walk_at "gb")) | (refine' bm_not (b := false) ?k1 rfl; (case k1 => walk_at "gb")))
  | ((with_reducible show GB _ _ (tB _) _ _ _ _); refine' gb_val ?k1; (case k1 => walk_at "gv")))
local macro_rules | `(tactic| walk_at "gr") => `(tactic| first
  | ((with_reducible show GR _ _ (tRet _) _ _ _); refine' rr_ret ?k1; (case k1 => walk_at "gv"))
  | ((with_reducible show GR _ _ (tSeq (tIfS _ _ tNext) _) _ _ _); (first
    | ((with_reducible refine' rr_skip ?k1 ?k2); (case k1 => walk_at "gb"))
    | ((with_reducible refine' rr_take ?k1 ?k2); (case k1 => walk_at "gb"))); (walk_at "gr"))
  | ((with_reducible show GR _ _ (tSeq _ _) _ _ _); (with_reducible refine' rr_sn ?k1 ?k2); (case k1 => walk_at "gn"); (case k2 => walk_at "gr")))
local macro_rules | `(tactic| walk_at "gn") => `(tactic| first
  | ((with_reducible show GN _ _ tNext _ _ _ _); exact nm_next)
  | ((with_reducible show GN _ _ (tAsg _ (gName _)) _ _ _ _); refine' nm_asg ?k1; (case k1 => walk_at "gv"))
  | ((with_reducible show GN _ _ (tAsg _ _) _ _ _ _); refine' gn_up2 ?k1; (case k1 => walk_at "gv"))
  | ((with_reducible show GN _ _ (tIfS _ _ _) _ _ _ _); (first
    | ((with_reducible refine' nm_yes ?k1 ?k2); (case k1 => walk_at "gb"))
    | ((with_reducible refine' nm_no ?k1 ?k2); (case k1 => walk_at "gb"))); (walk_at "gn"))
  | ((with_reducible show GN _ _ (tSeq _ _) _ _ _ _); (with_reducible refine' nm_sn ?k1 ?k2); (case k1 => walk_at "gn"); (case k2 => walk_at "gn")))
section
variable {P : Program} {w : World} {K : PySem.W.Frag} {mg : Str → Option Value} {base : Heap}
theorem isW {K : PySem.W.Frag} {co : Co} {A : Ty} {m : Int} {Φ Φ' : Hp → Prop} {s : CS} (h1 : ∀ H, Φ' H → Φ H) (hs : (∀ H1 H2, Φ H1 → Sta K H1 H2 → Φ H2)) :
    ∀ d s', Is (.t [Co.d co, Ty.d A]) (m, Φ') d s' → ∃ s'', Is (.t [Co.d co, Ty.d A]) (m, Φ) d s'' ∧ s''.1 = s'.1 ∧ (∀ H, s'.2 H → s''.2 H) ∧ ∀ H1 H2, s''.2 H1 → Sta K H1 H2 → s''.2 H2 := fun d s' h => by
  obtain ⟨rfl, rfl⟩ := h
  exact ⟨_, ⟨rfl, rfl⟩, rfl, h1, hs⟩
/-- exactly d and the count m; more may be known of the heap -/
def Wk (d : D) (m : Int) (Φ : Hp → Prop) : D → CS → Prop := fun d' s' => d' = d ∧ s'.1 = m ∧ ∀ H, s'.2 H → Φ H
theorem Wk.to {K : PySem.W.Frag} {d0 : D} {m : Int} {Φ : Hp → Prop} : ∀ d s', Wk d0 m Φ d s' → ∃ s'', Is d0 (m, Φ) d s'' ∧ s''.1 = s'.1 ∧ (∀ H, s'.2 H → s''.2 H) ∧ ((∀ H1 H2, Φ H1 → Sta K H1 H2 → Φ H2) → ∀ H1 H2, s''.2 H1 → Sta K H1 H2 → s''.2 H2) := fun d s' h => by
  obtain ⟨rfl, h1, h2⟩ := h
  exact ⟨_, ⟨rfl, rfl⟩, h1.symm, h2, fun z => z⟩
theorem GR.wk {S : Type} {Wd : S → Hp → Prop} {t : TS} {ds : Lo} {s : S} {P P' : D → S → Prop} (h : GR K Wd t ds s P) (hp : ∀ d s', P d s' → P' d s') : GR K Wd t ds s P' := fun D σ H L W q => h D σ H L W fun v H' d s' p => q v H' d s' (hp _ _ p)
theorem gr_wk {c : Addr} {t : TS} {ds : Lo} {s s' : CS} {d : D} {m : Int} {Φ : Hp → Prop} (h : GR K (CWd K c) t ds s (Is d s')) (h1 : s'.1 = m) (h2 : ∀ H, s'.2 H → Φ H) : GR K (CWd K c) t ds s (Wk d m Φ) := h.wk fun _ _ k => by
  obtain ⟨rfl, rfl⟩ := k
  exact ⟨rfl, h1, h2⟩
theorem ok_binder (T : Tx w K mg) {n k : Nat} (hk : 14 ≤ k) (c_part : C8.Met P w K mg base k (CK K) "part" (spC K (RPa K n)) []) : C8.Met P w K mg base (k + 1) (CK K) "binder" (spC K fun s l P => REl K (n + 1) s l P ∧ ∃ e p, l = [Sx.d e, .r p] ∧ ((∃ x A b, e = .fn x A b) ∨ (∃ h x A B b, e = .rc h x A B b) ∨ ∃ x a b, e = .lt x a b)) [] := by
  have c_fitted := ok_fitted (P := P) (base := base) T
  refine mk_Checker_binder T fun fd F => ok_cr F sc_Checker_binder (fun st l Po h => by obtain ⟨⟨e, p, en, pt, m, c0, rfl, _⟩, _⟩ := h; rfl) fun cdv A outer s H E c st l Po hr h => ?_
  obtain ⟨⟨e, p, en, pt, m, c0, rfl, h1, h2, h3, h4, h5, rfl⟩, e', p', hl, he⟩ := h
  have he' : (∃ x A b, e = .fn x A b) ∨ (∃ h x A B b, e = .rc h x A B b) ∨ ∃ x a b, e = .lt x a b := by
    injection hl with hl _
    rcases he with ⟨x, A, b, rfl⟩ | ⟨h, x, A, B, b, rfl⟩ | ⟨x, a, b, rfl⟩ <;> cases e <;> first | exact .inl ⟨_, _, _, rfl⟩ | exact .inr (.inl ⟨_, _, _, _, _, rfl⟩) | exact .inr (.inr ⟨_, _, _, rfl⟩) | (exfalso; revert hl; unfold Sx.d; intro hl; injection hl with hl; injection hl with hl _; injection hl with hl; revert hl; decide +kernel)
  clear hl he
  refine ⟨_, Wk (.t [Co.d pt.core, Ty.d pt.known]) m st.2, (pss_cons (ps_set (i := 3) sc_Checker_binder.nd rfl (Or.inl rfl) (pe_ix ix_tup (pv 1) pe_int (fun _ _ => rfl)))
  (pss_cons (ps_if (pt_cmpR op_eq (pv 3) pe_str (nomark _)) (pss_cons (ps_asg (pv 1) (pg_tup rfl (pgs_cons (pg_name (i := 3) sc_Checker_binder.nd rfl (Or.inl rfl)) (pgs_cons (pg_name (i := 4) sc_Checker_binder.nd rfl (Or.inl rfl)) (pgs_cons (pg_name (i := 5) sc_Checker_binder.nd rfl (Or.inl rfl)) (pgs_cons (pg_name (i := 6) sc_Checker_binder.nd rfl (Or.inl rfl)) pgs_nil))))))
  (pss_cons (ps_set (i := 7) sc_Checker_binder.nd rfl (Or.inl rfl) (C8.pe_mt c_part hr (by omega) (pv 0) (pa_cons (pv 6) (pa_cons (pe_op op_cat (pv 2) (pe_lst (pa_cons (pe_tup (pa_cons (pv 4) (pa_cons (pv 5) pa_nil))) pa_nil))) pa_nil))))
  (pss_one (ps_ret (pe_tup (pa_cons (pe_tup (pa_cons pe_str (pa_cons (pv 4) (pa_cons (pv 5) (pa_cons (pe_fld (pv 7) rfl) pa_nil))))) (pa_cons (pe_tup (pa_cons pe_str (pa_cons (pv 5) (pa_cons (pe_fld (pv 7) rfl) pa_nil)))) pa_nil))))))) pss_nil)
  (pss_cons (ps_if (pt_cmpR op_eq (pv 3) pe_str (nomark _)) (pss_cons (ps_asg (pv 1) (pg_tup rfl (pgs_cons (pg_name (i := 3) sc_Checker_binder.nd rfl (Or.inl rfl)) (pgs_cons (pg_name (i := 8) sc_Checker_binder.nd rfl (Or.inl rfl)) (pgs_cons (pg_name (i := 4) sc_Checker_binder.nd rfl (Or.inl rfl)) (pgs_cons (pg_name (i := 5) sc_Checker_binder.nd rfl (Or.inl rfl)) (pgs_cons (pg_name (i := 9) sc_Checker_binder.nd rfl (Or.inl rfl)) (pgs_cons (pg_name (i := 6) sc_Checker_binder.nd rfl (Or.inl rfl)) pgs_nil))))))))
  (pss_cons (ps_set (i := 10) sc_Checker_binder.nd rfl (Or.inl rfl) (pe_tup (pa_cons pe_str (pa_cons (pv 5) (pa_cons (pv 9) pa_nil)))))
  (pss_cons (ps_set (i := 7) sc_Checker_binder.nd rfl (Or.inl rfl) (C8.pe_mt c_part hr (by omega) (pv 0) (pa_cons (pv 6) (pa_cons (pe_op op_cat (pv 2) (pe_lst (pa_cons (pe_tup (pa_cons (pv 8) (pa_cons (pv 10) pa_nil))) (pa_cons (pe_tup (pa_cons (pv 4) (pa_cons (pv 5) pa_nil))) pa_nil)))) pa_nil))))
  (pss_one (ps_ret (pe_tup (pa_cons (pe_tup (pa_cons pe_str (pa_cons (pv 8) (pa_cons (pv 4) (pa_cons (pv 5) (pa_cons (pv 9) (pa_cons (C8.pe_mt c_fitted hr (by omega) (pv 7) (pa_cons (pv 9) pa_nil)) pa_nil))))))) (pa_cons (pv 10) pa_nil)))))))) pss_nil)
  (pss_cons (ps_asg (pv 1) (pg_tup rfl (pgs_cons (pg_name (i := 3) sc_Checker_binder.nd rfl (Or.inl rfl)) (pgs_cons (pg_name (i := 4) sc_Checker_binder.nd rfl (Or.inl rfl)) (pgs_cons (pg_name (i := 11) sc_Checker_binder.nd rfl (Or.inl rfl)) (pgs_cons (pg_name (i := 12) sc_Checker_binder.nd rfl (Or.inl rfl)) pgs_nil))))))
  (pss_cons (ps_set (i := 13) sc_Checker_binder.nd rfl (Or.inl rfl) (C8.pe_mt c_part hr (by omega) (pv 0) (pa_cons (pv 11) (pa_cons (pv 2) pa_nil))))
  (pss_cons (ps_set (i := 7) sc_Checker_binder.nd rfl (Or.inl rfl) (C8.pe_mt c_part hr (by omega) (pv 0) (pa_cons (pv 12) (pa_cons (pe_op op_cat (pv 2) (pe_lst (pa_cons (pe_tup (pa_cons (pv 4) (pa_cons (pe_fld (pv 13) rfl) pa_nil))) pa_nil))) pa_nil))))
  (pss_one (ps_ret (pe_tup (pa_cons (pe_tup (pa_cons pe_str (pa_cons (pv 4) (pa_cons (pe_fld (pv 13) rfl) (pa_cons (pe_fld (pv 7) rfl) pa_nil))))) (pa_cons (pe_fld (pv 7) rfl) pa_nil))))))))))), ?_, Wk.to⟩
  have d0 : ∀ (x : Str) (l : List D), Sx.d e = .t (.s x :: l) → ED K (tOp (rIxT K) (tVar 1) (tC (.int 0))) (some (.r c) :: (([Sx.d e, .r p] : List D).map some ++ List.replicate 11 none)) (.s x) := fun x l hl => ed_ix0 (l := .s x :: l) (ed_var (by rw [hl] <;> rfl)) rfl
  rcases he' with ⟨x, A, b, rfl⟩ | ⟨hh, x, A, B, b, rfl⟩ | ⟨x, a, b, rfl⟩
  · simp only [el, Option.map_eq_some_iff, Prod.mk.injEq] at h5
    obtain ⟨⟨q, m'⟩, h5, rfl, rfl⟩ := h5
    have hd : dep b + 1 ≤ n + 1 := h1
    have h2' : en.length + 2 * (dep b + 1) ≤ 900 := h2
    refine rr_sn (nm_nd (nd_asg (d0 "fun" _ rfl))) (rr_take (by walk_at "gb") ?_)
    refine rr_sn (gn_up4 (x := .s "fun") (y := .s x.str) (z := A.d) (a := Sx.d b) (em_ed (ed_var rfl))) ?_
    refine rr_asgE (ce_partE (en := en) (new := [(x, A)]) (b := b) rfl rfl rfl h3 (ems_ed (es_cons (d := enD (x, A)) (ed_tup (es_cons (ed_var rfl) (es_cons (ed_var rfl) es_nil)) (Nat.le_of_ble_eq_true rfl)) es_nil)) (by omega) (by show en.length + 1 + 2 * dep b ≤ 900; omega) (by rw [h4]; exact h5)) fun d s1 k => ?_
    obtain ⟨a, z, rfl, rfl⟩ := k
    have hp' : ∀ H, CWd K c (m', fun H => (st.2 H ∧ EnvAt K H z ([(x, A)] ++ en)) ∧ PartAt K H a q) H → PartAt K H a q := fun H k => k.2.1.2
    refine gr_wk (s' := (m', fun H => (st.2 H ∧ EnvAt K H z ([(x, A)] ++ en)) ∧ PartAt K H a q)) ?_ rfl fun H k => k.1.1
    walk_at "gr"
  · simp only [el, Option.bind_eq_some_iff, Option.map_eq_some_iff, Prod.mk.injEq] at h5
    obtain ⟨⟨q, m'⟩, h5, y, hy, rfl, rfl⟩ := h5
    have hd : dep b + 1 ≤ n + 1 := h1
    have h2' : en.length + 2 * (dep b + 1) ≤ 900 := h2
    refine rr_sn (nm_nd (nd_asg (d0 "rec" _ rfl))) (rr_skip (by walk_at "gb") (rr_take (by walk_at "gb") ?_))
    refine rr_sn (gn_up6 (x := .s "rec") (y := .s hh.str) (z := .s x.str) (a := A.d) (b := B.d) (f := Sx.d b) (em_ed (ed_var rfl))) ?_
    refine rr_sn (nm_nd (nd_asg (d := Ty.d (.fn A B)) (ed_tup (es_cons ed_s (es_cons (ed_var rfl) (es_cons (ed_var rfl) es_nil))) (Nat.le_of_ble_eq_true rfl)))) ?_
    refine rr_asgE (ce_partE (en := en) (new := [(x, A), (hh, .fn A B)]) (b := b) rfl rfl rfl h3 (ems_ed (es_cons (d := enD (hh, .fn A B)) (ed_tup (es_cons (ed_var rfl) (es_cons (ed_var rfl) es_nil)) (Nat.le_of_ble_eq_true rfl)) (es_cons (d := enD (x, A)) (ed_tup (es_cons (ed_var rfl) (es_cons (ed_var rfl) es_nil)) (Nat.le_of_ble_eq_true rfl)) es_nil))) (by omega) (by show en.length + 2 + 2 * dep b ≤ 900; omega) (by rw [h4]; exact h5)) fun d s1 k => ?_
    obtain ⟨a, z, rfl, rfl⟩ := k
    have hp' : ∀ H, CWd K c (m', fun H => (st.2 H ∧ EnvAt K H z ([(x, A), (hh, .fn A B)] ++ en)) ∧ PartAt K H a q) H → PartAt K H a q := fun H k => k.2.1.2
    have q1 : RFit K (CWd K c (m', fun H => (st.2 H ∧ EnvAt K H z ([(x, A), (hh, .fn A B)] ++ en)) ∧ PartAt K H a q)) [.r a, Ty.d B] (Co.d y) := ⟨a, q, B, y, rfl, hp', hy, rfl⟩
    refine gr_wk (s' := (m', fun H => (st.2 H ∧ EnvAt K H z ([(x, A), (hh, .fn A B)] ++ en)) ∧ PartAt K H a q)) ?_ rfl fun H k => k.1.1
    walk_at "gr"
  · simp only [el, Option.bind_eq_some_iff, Option.map_eq_some_iff, Prod.mk.injEq] at h5
    obtain ⟨⟨q, m1⟩, h5, ⟨r, m2⟩, h6, rfl, rfl⟩ := h5
    have hd : max (dep a) (dep b) + 1 ≤ n + 1 := h1
    have h2' : en.length + 2 * (max (dep a) (dep b) + 1) ≤ 900 := h2
    refine rr_sn (nm_nd (nd_asg (d0 "let" _ rfl))) (rr_skip (by walk_at "gb") (rr_skip (by walk_at "gb") ?_))
    refine rr_sn (gn_up4 (x := .s "let") (y := .s x.str) (z := Sx.d a) (a := Sx.d b) (em_ed (ed_var rfl))) ?_
    refine rr_asgE (ce_meth (R := RPa K n) cf_part rfl (ems_ed (es_cons (ed_var rfl) (es_cons (ed_var rfl) es_nil))) ⟨a, p, en, q, m1, rfl, by omega, by omega, h3, by rw [h4]; exact h5, rfl⟩) fun d s1 k => ?_
    obtain ⟨ad, rfl, rfl⟩ := k
    have hp1 : ∀ H, CWd K c (m1, fun H => st.2 H ∧ PartAt K H ad q) H → PartAt K H ad q := fun H k => k.2.1.2
    refine rr_asgE (ce_partE (s := (m1, fun H => st.2 H ∧ PartAt K H ad q)) (en := en) (new := [(x, q.known)]) (b := b) (j := 12) rfl rfl rfl (fun H k => h3 H k.1) (ems_cons (d := enD (x, q.known)) (em_tup (ems_cons (em_ed (ed_var rfl)) (ems_cons (ge_known T (em_ed (ed_var rfl)) hp1) ems_nil)) (Nat.le_of_ble_eq_true rfl)) ems_nil) (by omega) (by show en.length + 1 + 2 * dep b ≤ 900; omega) h6) fun d s1 k => ?_
    obtain ⟨ad2, z, rfl, rfl⟩ := k
    have hp2 : ∀ H, CWd K c (m2, fun H => ((st.2 H ∧ PartAt K H ad q) ∧ EnvAt K H z ([(x, q.known)] ++ en)) ∧ PartAt K H ad2 r) H → PartAt K H ad2 r := fun H k => k.2.1.2
    have hp3 : ∀ H, CWd K c (m2, fun H => ((st.2 H ∧ PartAt K H ad q) ∧ EnvAt K H z ([(x, q.known)] ++ en)) ∧ PartAt K H ad2 r) H → PartAt K H ad q := fun H k => k.2.1.1.1.2
    refine gr_wk (s' := (m2, fun H => ((st.2 H ∧ PartAt K H ad q) ∧ EnvAt K H z ([(x, q.known)] ++ en)) ∧ PartAt K H ad2 r)) ?_ rfl fun H k => k.1.1.1
    have g1 := ge_core T (K := K) (Wd := CWd K c) (te := tVar 13) (ds := (((((((some (D.r c) :: (List.map some [(Sx.lt x a b).d, D.r p] ++ List.replicate 11 none)).set 3 (some (D.s "let"))).set 3 (some (D.s "let"))).set 4 (some (D.s x.str))).set 11 (some a.d)).set 12 (some b.d)).set 13 (some (D.r ad))).set 7 (some (D.r ad2))) (em_ed (ed_var rfl)) hp3
    have g2 := ge_core T (K := K) (Wd := CWd K c) (te := tVar 7) (ds := (((((((some (D.r c) :: (List.map some [(Sx.lt x a b).d, D.r p] ++ List.replicate 11 none)).set 3 (some (D.s "let"))).set 3 (some (D.s "let"))).set 4 (some (D.s x.str))).set 11 (some a.d)).set 12 (some b.d)).set 13 (some (D.r ad))).set 7 (some (D.r ad2))) (em_ed (ed_var rfl)) hp2
    have g3 := ge_known T (K := K) (Wd := CWd K c) (te := tVar 7) (ds := (((((((some (D.r c) :: (List.map some [(Sx.lt x a b).d, D.r p] ++ List.replicate 11 none)).set 3 (some (D.s "let"))).set 3 (some (D.s "let"))).set 4 (some (D.s x.str))).set 11 (some a.d)).set 12 (some b.d)).set 13 (some (D.r ad))).set 7 (some (D.r ad2))) (em_ed (ed_var rfl)) hp2
    exact rr_ret (em_tup (ems_cons (d := Co.d (.lt x q.core r.core)) (em_tup (ems_cons (em_ed ed_s) (ems_cons (em_ed (ed_var rfl)) (ems_cons g1 (ems_cons g2 ems_nil)))) (Nat.le_of_ble_eq_true rfl)) (ems_cons g3 ems_nil)) (Nat.le_of_ble_eq_true rfl))
end
end Hn
end

/- HnW16 -/
section
set_option Elab.async false
set_option linter.all false
set_option maxRecDepth 100000
set_option maxHeartbeats 4000000
namespace Hn
open PySem PySem.Spec PyProof.Rows L2 Evl
local macro_rules | `(tactic| walk_at "ev") => `(tactic| first
  | ((with_reducible show ED _ (tVar _) _ _); exact ed_var rfl)
  | ((with_reducible show ED _ (tC _) _ _); first | exact ed_s | exact ed_i | exact ed_b | exact ed_n | exact ed_c (by assumption))
  | ((with_reducible show ED _ (tOp (rIxT _) _ (tC (V.int 0))) _ _); refine' ed_ix0 ?k1 ?k2; (case k1 => walk_at "ev"); (case k2 => rfl))
  | ((with_reducible show ED _ (tOp (rIxT _) _ (tC (V.int 1))) _ _); refine' ed_ix1 ?k1 ?k2; (case k1 => walk_at "ev"); (case k2 => rfl))
  | ((with_reducible show ED _ (tOp (rIxT _) _ (tC (V.int 2))) _ _); refine' ed_ix2 ?k1 ?k2; (case k1 => walk_at "ev"); (case k2 => rfl))
  | ((with_reducible show ED _ (tOp (rIxT _) _ (tC (V.int 3))) _ _); refine' ed_ix3 ?k1 ?k2; (case k1 => walk_at "ev"); (case k2 => rfl))
  | ((with_reducible show ED _ (tOp (rIxT _) _ (tC (V.int 4))) _ _); refine' ed_ix4 ?k1 ?k2; (case k1 => walk_at "ev"); (case k2 => rfl))
  | ((with_reducible show ED _ (tOp (rIxT _) _ (tC (V.int 5))) _ _); refine' ed_ix5 ?k1 ?k2; (case k1 => walk_at "ev"); (case k2 => rfl))
  | ((with_reducible show ED _ (tOp (rIxT _) _ (tVar _)) _ _); first
    | (refine' ed_ixE (j := 1) ?k1 ?k2 ?k3 ?k4; (case k1 => walk_at "ev"); (case k2 => walk_at "ev"); (case k3 => rfl); (case k4 => first | rfl | decide))
    | (refine' ed_ixE (j := 2) ?k1 ?k2 ?k3 ?k4; (case k1 => walk_at "ev"); (case k2 => walk_at "ev"); (case k3 => rfl); (case k4 => first | rfl | decide)))
  | ((with_reducible show ED _ (tCB _ (tCons _ tNil)) _ _); refine' ed_len ?k1 ?k2; (case k1 => walk_at "ev"); (case k2 => rfl))
  | ((with_reducible show ED _ (tTup _) _ _); refine' ed_tup ?k1 ?k2; (case k1 => walk_at "es"); (case k2 => exact Nat.le_of_ble_eq_true rfl))
  | ((with_reducible show ED _ (tCall _ _ _ _) _ _); refine' ed_call ?k1 ?k2; (case k1 => walk_at "es"); (case k2 => walk_at "cl"))
  | ((with_reducible show ED _ (tCallN _ _ _ _ _ _ _) _ _); refine' ed_callK ?k1 ?k2 ?k3 ?k4 ?k5; (case k1 => walk_at "es"); (case k2 => walk_at "es"); (case k3 => walk_at "cl"); (case k4 => rfl); (case k5 => rfl))
  | ((with_reducible show ED _ (tOp (rI0 _) _ _) _ _); first
    | (refine' ed_add ?k1 ?k2; (case k1 => walk_at "ev"); (case k2 => walk_at "ev"))
    | (refine' ed_sub ?k1 ?k2; (case k1 => walk_at "ev"); (case k2 => walk_at "ev"))
    | (refine' ed_lt ?k1 ?k2; (case k1 => walk_at "ev"); (case k2 => walk_at "ev"))))
local macro_rules | `(tactic| walk_at "es") => `(tactic| first
  | ((with_reducible show EDs _ tNil _ _); exact es_nil)
  | ((with_reducible show EDs _ (tCons _ _) _ _); refine' es_cons ?k1 ?k2; (case k1 => walk_at "ev"); (case k2 => walk_at "es")))
local macro_rules | `(tactic| walk_at "eb") => `(tactic| first
  | ((with_reducible show EB _ (tTest (tOp rEq _ _)) _ _); refine' eb_eqS ?k1 ?k2 ?k3; (case k1 => walk_at "ev"); (case k2 => walk_at "ev"); (case k3 => first | decide +kernel | assumption))
  | ((with_reducible show EB _ (tTest (tOp rNe _ _)) _ _); refine' eb_neS ?k1 ?k2 ?k3; (case k1 => walk_at "ev"); (case k2 => walk_at "ev"); (case k3 => first | decide +kernel | assumption))
  | ((with_reducible show EB _ (tTest (tOp (rEqD _) _ _)) _ _); first
    | (refine' eb_ck ?k1 ?k2 ?k3 ?k4; (case k1 => walk_at "ev"); (case k2 => walk_at "ev"); (case k3 => first | rfl | decide +kernel | assumption); (case k4 => first | assumption | decide +kernel | omega))
    | (refine' eb_tyA ?k1 ?k2 ?k3 ?k4; (case k1 => walk_at "ev"); (case k2 => walk_at "ev"); (case k3 => first | rfl | decide +kernel | assumption); (case k4 => first | assumption | decide +kernel | omega))
    | (refine' eb_ty ?k1 ?k2 ?k3 ?k4 ?k5; (case k1 => walk_at "ev"); (case k2 => walk_at "ev"); (case k3 => first | assumption | rfl); (case k4 => first | assumption | decide +kernel | omega); (case k5 => first | assumption | decide +kernel | omega)))
  | ((with_reducible show EB _ (tTest (tOp (rIn _ _) _ _)) _ _); refine' eb_in ?k1 ?k2 ?k3; (case k1 => walk_at "ev"); (case k2 => walk_at "ev"); (case k3 => decide +kernel))
  | ((with_reducible show EB _ (tOr _ _) _ _); first
    | (refine' eb_or (b := true) ?k1 ?k2 ?k3; (case k1 => walk_at "eb"); (case k2 => intro z; cases z); (case k3 => intro _; rfl))
    | (refine' eb_or (b := false) ?k1 ?k2 ?k3; (case k1 => walk_at "eb"); (case k2 => intro _; walk_at "eb"); (case k3 => intro z; cases z)))
  | ((with_reducible show EB _ (tAnd _ _) _ _); first
    | (refine' eb_and (b := false) ?k1 ?k2 ?k3; (case k1 => walk_at "eb"); (case k2 => intro z; cases z); (case k3 => intro _; rfl))
    | (refine' eb_and (b := true) ?k1 ?k2 ?k3; (case k1 => walk_at "eb"); (case k2 => intro _; walk_at "eb"); (case k3 => intro z; cases z)))
  | ((with_reducible show EB _ (tNot _) _ _); first | (refine' eb_not (b := true) ?k1 rfl; (case k1 => walk_at "eb")) | (refine' eb_not (b := false) ?k1 rfl; (case k1 => walk_at "eb")))
  | ((with_reducible show EB _ (tB _) _ _); refine' eb_val ?k1; (case k1 => walk_at "ev")))
local macro_rules | `(tactic| walk_at "rd") => `(tactic| first
  | ((with_reducible show RD _ (tRet _) _ _); refine' rd_ret ?k1; (case k1 => walk_at "ev"))
  | ((with_reducible show RD _ (tSeq (tIfS _ _ tNext) _) _ _); (first
    | ((with_reducible refine' rd_skip ?k1 ?k2); (case k1 => walk_at "eb"))
    | ((with_reducible refine' rd_take ?k1 ?k2); (case k1 => walk_at "eb"))); (walk_at "rd"))
  | ((with_reducible show RD _ (tIfS _ _ _) _ _); (first
    | ((with_reducible refine' rd_yes ?k1 ?k2); (case k1 => walk_at "eb"))
    | ((with_reducible refine' rd_no ?k1 ?k2); (case k1 => walk_at "eb"))); (walk_at "rd"))
  | ((with_reducible show RD _ (tSeq _ _) _ _); (with_reducible refine' rd_sn ?k1 ?k2); (case k1 => walk_at "nd"); (case k2 => walk_at "rd")))
local macro_rules | `(tactic| walk_at "nd") => `(tactic| first
  | ((with_reducible show ND _ tNext _ _); exact nd_next)
  | ((with_reducible show ND _ (tAsg _ _) _ _); refine' nd_asg ?k1; (case k1 => walk_at "ev"))
  | ((with_reducible show ND _ (tIfS _ _ _) _ _); (first
    | ((with_reducible refine' nd_yes ?k1 ?k2); (case k1 => walk_at "eb"))
    | ((with_reducible refine' nd_no ?k1 ?k2); (case k1 => walk_at "eb"))); (walk_at "nd"))
  | ((with_reducible show ND _ (tSeq _ _) _ _); (with_reducible refine' nd_sn ?k1 ?k2); (case k1 => walk_at "nd"); (case k2 => walk_at "nd")))
local macro_rules | `(tactic| walk_at "cl") => `(tactic| first | assumption | skip)
local macro_rules | `(tactic| walk_at "gv") => `(tactic| first
  | (refine' em_ed ?k1; (case k1 => walk_at "ev"))
  | ((with_reducible show GE _ _ (tFld _ _ _) _ _ _); first
    | (refine' ge_known ?kT ?k1 ?k2; (case kT => assumption); (case k1 => walk_at "gv"); (case k2 => assumption))
    | (refine' ge_core ?kT ?k1 ?k2; (case kT => assumption); (case k1 => walk_at "gv"); (case k2 => assumption))
    | (refine' ge_num ?kT ?k1 ?k2; (case kT => assumption); (case k1 => walk_at "gv"); (case k2 => assumption)))
  | ((with_reducible show GE _ _ (tOp (rIxL _) _ (tC (V.int 0))) _ _ _); refine' ge_ixL0 ?k1 ?k2 ?k3; (case k1 => walk_at "gv"); (case k2 => assumption); (case k3 => rfl))
  | ((with_reducible show GE _ _ (tOp (rIxL _) _ (tC (V.int 1))) _ _ _); refine' ge_ixL1 ?k1 ?k2 ?k3; (case k1 => walk_at "gv"); (case k2 => assumption); (case k3 => rfl))
  | ((with_reducible show GE _ _ (tOp (rIxL _) _ (tC (V.int 2))) _ _ _); refine' ge_ixL2 ?k1 ?k2 ?k3; (case k1 => walk_at "gv"); (case k2 => assumption); (case k3 => rfl))
  | ((with_reducible show GE _ _ (tOp (rIxT _) _ (tC (V.int 0))) _ _ _); refine' ge_ix0 ?k1 ?k2; (case k1 => walk_at "gv"); (case k2 => rfl))
  | ((with_reducible show GE _ _ (tOp (rIxT _) _ (tC (V.int 1))) _ _ _); refine' ge_ix1 ?k1 ?k2; (case k1 => walk_at "gv"); (case k2 => rfl))
  | ((with_reducible show GE _ _ (tOp (rIxT _) _ (tC (V.int 2))) _ _ _); refine' ge_ix2 ?k1 ?k2; (case k1 => walk_at "gv"); (case k2 => rfl))
  | ((with_reducible show GE _ _ (tTup _) _ _ _); refine' em_tup ?k1 ?k2; (case k1 => walk_at "gs"); (case k2 => exact Nat.le_of_ble_eq_true rfl))
  | ((with_reducible show GE _ _ (tMeth _ _ _ _ _ _ _) _ _ _); refine' ge_fit ?k1 ?k2 ?k3 ?k4; (case k1 => walk_at "gv"); (case k2 => assumption); (case k3 => walk_at "gs"); (case k4 => walk_at "cl"))
  | ((with_reducible show GE _ _ (tCall (spQ _ _) _ _ _) _ _ _); refine' ge_q ?k1 ?k2; (case k1 => walk_at "gs"); (case k2 => walk_at "cl"))
  | ((with_reducible show GE _ _ (tCall (spD _ _) _ _ _) _ _ _); refine' em_call ?k1 ?k2; (case k1 => walk_at "gs"); (case k2 => walk_at "cl")))
local macro_rules | `(tactic| walk_at "gs") => `(tactic| first
  | ((with_reducible show GEs _ _ tNil _ _ _ _); exact ems_nil)
  | ((with_reducible show GEs _ _ (tCons _ _) _ _ _ _); refine' ems_cons ?k1 ?k2; (case k1 => walk_at "gv"); (case k2 => walk_at "gs")))
local macro_rules | `(tactic| walk_at "gb") => `(tactic| first
  | (refine' bm_eb ?k1; (case k1 => walk_at "eb"))
  | ((with_reducible show GB _ _ (tTest (tOp (rEqD _) _ _)) _ _ _ _); first
    | (refine' gb_tyA ?k1 ?k2 ?k3 ?k4; (case k1 => walk_at "gv"); (case k2 => walk_at "gv"); (case k3 => first | rfl | decide +kernel | assumption); (case k4 => first | assumption | decide +kernel | omega))
    | (refine' gb_ty ?k1 ?k2 ?k3 ?k4 ?k5; (case k1 => walk_at "gv"); (case k2 => walk_at "gv"); (case k3 => first | assumption | rfl); (case k4 => first | assumption | decide +kernel | omega); (case k5 => first | assumption | decide +kernel | omega)))
  | ((with_reducible show GB _ _ (tTest (tOp rNe _ _)) _ _ _ _); refine' gb_neS ?k1 ?k2 ?k3; (case k1 => walk_at "gv"); (case k2 => walk_at "gv"); (case k3 => first | decide +kernel | assumption))
  | ((with_reducible show GB _ _ (tNot _) _ _ _ _); first | (refine' bm_not (b := true) ?k1 rfl; (case k1 => walk_at "gb")) | (refine' bm_not (b := false) ?k1 rfl; (case k1 => walk_at "gb")))
  | ((with_reducible show GB _ _ (tB _) _ _ _ _); refine' gb_val ?k1; (case k1 => walk_at "gv")))
local macro_rules | `(tactic| walk_at "gr") => `(tactic| first
  | ((with_reducible show GR _ _ (tRet _) _ _ _); refine' rr_ret ?k1; (case k1 => walk_at "gv"))
  | ((with_reducible show GR _ _ (tSeq (tIfS _ _ tNext) _) _ _ _); (first
    | ((with_reducible refine' rr_skip ?k1 ?k2); (case k1 => walk_at "gb"))
    | ((with_reducible refine' rr_take ?k1 ?k2); (case k1 => walk_at "gb"))); (walk_at "gr"))
  | ((with_reducible show GR _ _ (tSeq _ _) _ _ _); (with_reducible refine' rr_sn ?k1 ?k2); (case k1 => walk_at "gn"); (case k2 => walk_at "gr")))
local macro_rules | `(tactic| walk_at "gn") => `(tactic| first
  | ((with_reducible show GN _ _ tNext _ _ _ _); exact nm_next)
  | ((with_reducible show GN _ _ (tAsg _ (gName _)) _ _ _ _); refine' nm_asg ?k1; (case k1 => walk_at "gv"))
  | ((with_reducible show GN _ _ (tAsg _ _) _ _ _ _); refine' gn_up2 ?k1; (case k1 => walk_at "gv"))
  | ((with_reducible show GN _ _ (tIfS _ _ _) _ _ _ _); (first
    | ((with_reducible refine' nm_yes ?k1 ?k2); (case k1 => walk_at "gb"))
    | ((with_reducible refine' nm_no ?k1 ?k2); (case k1 => walk_at "gb"))); (walk_at "gn"))
  | ((with_reducible show GN _ _ (tSeq _ _) _ _ _ _); (with_reducible refine' nm_sn ?k1 ?k2); (case k1 => walk_at "gn"); (case k2 => walk_at "gn")))
section
variable {K : PySem.W.Frag} {H H1 H2 H' : Hp}
theorem sta_new {D : Addr} {xs ys : List V} (nD : H D = none) (e : Sta K H H1) (hD : H1 D = some (.lst xs)) : Sta K H (upd H1 D (.lst ys)) :=
  ⟨fun a zs h => tm_lst hD _ _ (e.tm _ _ h), fun a zs h => by rw [upd_ne (ne_of_none h nD)]; exact e.li _ _ h, fun a dx n x y h => by rw [upd_ne (ne_of_none h nD)]; exact e.pa _ _ _ _ _ h⟩
theorem PartAt.lst {D a : Addr} {xs ys : List V} {p : Pt} (h : PartAt K H a p) (hD : H D = some (.lst xs)) : PartAt K (upd H D (.lst ys)) a p := by
  obtain ⟨dx, x, y, h1, h2, h3⟩ := h
  have tm : Tm K H (upd H D (.lst ys)) := tm_lst hD
  exact ⟨dx, x, y, by rw [upd_ne (ne_of h1 hD fun z => by cases z)]; exact h1, h2.mono tm, h3.mono tm⟩
end
/-- the parts of a list of expressions -/
def PsOk (K : PySem.W.Frag) (as : List Addr) (pt : Nat → Pt) (H : Hp) : Prop := ∀ j a, as[j]? = some a → PartAt K H a (pt j)
theorem rr_parts {K : PySem.W.Frag} {c p : Addr} {u : TS} {s : CS} {P : D → CS → Prop} {n k : Nat} {e : Sx} {es : List Sx} {l : List D} {kk : Str} {en : TEn} {pt : Nat → Pt} {cnt : Nat → Int}
    (hk : Sx.d e = .t l) (hl : l.drop k = es.map Sx.d) (k0 : 0 < k) (kl : k ≤ l.length) (h9 : es.length ≤ 900) (hp : ∀ H, s.2 H → EnvAt K H p en) (c0 : s.1 = cnt 0)
    (hd : ∀ i (hi : i < es.length), dep es[i] ≤ n ∧ en.length + 2 * dep es[i] ≤ 900 ∧ el es[i] en (cnt i) = some (pt i, cnt (i + 1)))
    (hu : ∀ Dl as, as.length = es.length → GR K (CWd K c) u [some (.r c), some (Sx.d e), some (.r p), some (.s kk), none, some (.i k), some (.r Dl)] (cnt es.length, fun H => s.2 H ∧ H Dl = some (.lst (as.map V.ref)) ∧ PsOk K as pt H) P) :
    GR K (CWd K c) (tSeq (tAsg (tLc (iTup K (tSl (rSlT K) (tVar 1) (tPart (tVar 5)) tNoPart)) (gName 4) tYes (tMeth (CK K) "part" (spC K (RPa K n)) [] C8.E0 (tVar 0) (tCons (tVar 4) (tCons (tVar 2) tNil))) [4]) (gName 6)) u)
      [some (.r c), some (Sx.d e), some (.r p), some (.s kk), none, some (.i k), none] s P := fun D σ H L W q => by
  obtain ⟨v0, r0, rfl, e0, L⟩ := loS L
  obtain ⟨v1, r1, rfl, e1, L⟩ := loS L
  obtain ⟨v2, r2, rfl, e2, L⟩ := loS L
  obtain ⟨v3, r3, rfl, e3, L⟩ := loS L
  obtain ⟨x4, r4, rfl, L4⟩ := loN L
  obtain ⟨v5, r5, rfl, e5, L5⟩ := loS L4
  obtain ⟨x6, r6, rfl, L6⟩ := loN L5
  cases lo0 L6
  have e0' : v0 = .ref c := e0
  have e2' : v2 = .ref p := e2
  have e5' : v5 = .int k := e5
  subst e0' e2' e5'
  have e1' := e1
  rw [hk] at e1'
  obtain ⟨a, xs, rfl, hx, rx⟩ := e1'
  have hlx := rx.len
  refine ⟨_, rfl, _, rfl, _, rfl, a, xs, rfl, hx, ?_, fun t nt => ?_⟩
  · rw [HT.sIx_nat, hlx]
    intro z
    omega
  have et : Ex H (upd H t (.tup (cutV xs (some (k : Int)) none))) := Ex.new nt
  have hc : cutV xs (some (k : Int)) none = xs.drop k := by
    unfold cutV
    rw [HT.sIx_nat, HT.sIx_none, hlx, Nat.min_eq_left kl, List.take_of_length_le]
    rw [List.length_drop, hlx]
    exact Nat.le_refl _
  have ry : Reps K (upd H t (.tup (cutV xs (some (k : Int)) none))) (es.map Sx.d) (xs.drop k) := by
    rw [← hl]
    exact (rx.drop k).mono (Tm.ex et)
  rw [hc] at et ry ⊢
  generalize hH1 : upd H t (.tup (xs.drop k)) = H1 at et ry
  have ht : SqT K H1 t (xs.drop k) := by rw [← hH1]; exact SqT.of upd_same
  have W1 := Gr.g et W
  have hly := ry.len
  rw [List.length_map] at hly
  refine ⟨t, rfl, ⟨_, ht⟩, fun Dl nD => ?_⟩
  obtain ⟨⟨dx, w1⟩, w2, w3⟩ := id W1
  refine lc_tup (K := K) (a := t) (xs := xs.drop k) (fun i H2 => (∃ dx, H2 c = some (.ins (CK K) dx (cf (cnt i)))) ∧ Sta K H1 H2 ∧ ∃ as : List Addr, as.length = i ∧ H2 Dl = some (.lst (as.map V.ref)) ∧ PsOk K as pt H2)
    ⟨⟨dx, by rw [upd_ne (ne_of_none w1 nD), ← c0]; exact w1⟩, Sta.ex (Ex.new nD), [], rfl, upd_same, fun j a h => by cases h⟩ (fun i H2 _ z => z.2.1.tm _ _ ht) (fun i x H2 hx ⟨⟨dx2, z1⟩, z2, as, z3, z4, z5⟩ => ?_) fun H2 ⟨⟨dx2, z1⟩, z2, as, z3, z4, z5⟩ => ?_
  · have hi : i < es.length := by rw [← hly]; exact (List.getElem?_eq_some_iff.mp hx).1
    obtain ⟨y, hy, ryi⟩ := ry.get (j := i) (d := Sx.d es[i]) (by rw [List.getElem?_map, List.getElem?_eq_getElem hi] <;> rfl)
    rw [hx] at hy; cases hy
    obtain ⟨d1, d2, d3⟩ := hd i hi
    refine ⟨rfl, .ref c, rfl, c, dx2, _, rfl, z1, cf_part _, x, rfl, .ref p, rfl, ?_⟩
    refine ⟨c, (cnt i, fun H => Sta K H1 H ∧ H Dl = some (.lst (as.map V.ref)) ∧ PsOk K as pt H), [Sx.d es[i], .r p], _, _, rfl, .cons (ryi.mono z2.tm) (.cons rfl .nil), ⟨⟨dx2, z1⟩, ⟨z2, z4, z5⟩, fun Ha Hb k st => ⟨k.1.trans st, st.li _ _ k.2.1, fun j a h => (k.2.2 j a h).sta st⟩⟩,
      ⟨es[i], p, en, pt i, cnt (i + 1), rfl, d1, d2, fun Hx k => (hp _ w2).sta k.1, d3, rfl⟩, fun v H4 d s' k tm4 W4 r4 => ?_⟩
    obtain ⟨aa, rfl, rfl⟩ := k
    have r4' : v = .ref aa := r4
    subst r4'
    obtain ⟨⟨dx4, y1⟩, ⟨⟨y2, y3, y4⟩, y5⟩, _⟩ := W4
    refine ⟨_, y3, by rw [List.length_map, z3]; exact small1000 (by omega), ⟨dx4, ?_⟩, sta_new nD y2 y3, as ++ [aa], ?_, ?_, fun j a' h => ?_⟩
    · rw [upd_ne (ne_of y1 y3 fun z => by cases z)]; exact y1
    · rw [List.length_append, z3] <;> rfl
    · rw [upd_same, List.map_append] <;> rfl
    · by_cases hj : j < as.length
      · rw [List.getElem?_append_left hj] at h
        exact (y4 j a' h).lst y3
      · rw [List.getElem?_append_right (by omega)] at h
        have hj2 : j - as.length = 0 := by
          have := (List.getElem?_eq_some_iff.mp h).1
          simp only [List.length_cons, List.length_nil] at this
          omega
        rw [hj2] at h
        cases h
        have : j = i := by omega
        rw [this]
        exact y5.lst y3
  · rw [hly] at z1 z3
    have st : Sta K H H2 := (Sta.ex et).trans z2
    refine hu Dl as z3 D _ H2 ?_ ⟨⟨dx2, z1⟩, ⟨w3 _ _ w2 z2, z4, z5⟩, fun Ha Hb k st => ⟨w3 _ _ k.1 st, st.li _ _ k.2.1, fun j a h => (k.2.2 j a h).sta st⟩⟩ fun v H5 d s' p tm W r => q v H5 d s' p (st.tm.trans tm) W r
    have e1t := e1.mono st.tm
    have e3t := e3.mono st.tm
    cases x4
    · exact ⟨rfl, e1t, rfl, e3t, rfl, rfl, trivial⟩
    · exact ⟨rfl, e1t, rfl, e3t, rfl, rfl, trivial⟩
end Hn
end

/- HnW17 -/
section
set_option Elab.async false
set_option linter.all false
set_option maxRecDepth 100000
set_option maxHeartbeats 4000000
namespace Hn
open PySem PySem.Spec PyProof.Rows L2 Evl
local macro_rules | `(tactic| walk_at "ev") => `(tactic| first
  | ((with_reducible show ED _ (tVar _) _ _); exact ed_var rfl)
  | ((with_reducible show ED _ (tC _) _ _); first | exact ed_s | exact ed_i | exact ed_b | exact ed_n | exact ed_c (by assumption))
  | ((with_reducible show ED _ (tOp (rIxT _) _ (tC (V.int 0))) _ _); refine' ed_ix0 ?k1 ?k2; (case k1 => walk_at "ev"); (case k2 => rfl))
  | ((with_reducible show ED _ (tOp (rIxT _) _ (tC (V.int 1))) _ _); refine' ed_ix1 ?k1 ?k2; (case k1 => walk_at "ev"); (case k2 => rfl))
  | ((with_reducible show ED _ (tOp (rIxT _) _ (tC (V.int 2))) _ _); refine' ed_ix2 ?k1 ?k2; (case k1 => walk_at "ev"); (case k2 => rfl))
  | ((with_reducible show ED _ (tOp (rIxT _) _ (tC (V.int 3))) _ _); refine' ed_ix3 ?k1 ?k2; (case k1 => walk_at "ev"); (case k2 => rfl))
  | ((with_reducible show ED _ (tOp (rIxT _) _ (tC (V.int 4))) _ _); refine' ed_ix4 ?k1 ?k2; (case k1 => walk_at "ev"); (case k2 => rfl))
  | ((with_reducible show ED _ (tOp (rIxT _) _ (tC (V.int 5))) _ _); refine' ed_ix5 ?k1 ?k2; (case k1 => walk_at "ev"); (case k2 => rfl))
  | ((with_reducible show ED _ (tOp (rIxT _) _ (tVar _)) _ _); first
    | (refine' ed_ixE (j := 1) ?k1 ?k2 ?k3 ?k4; (case k1 => walk_at "ev"); (case k2 => walk_at "ev"); (case k3 => rfl); (case k4 => first | rfl | decide))
    | (refine' ed_ixE (j := 2) ?k1 ?k2 ?k3 ?k4; (case k1 => walk_at "ev"); (case k2 => walk_at "ev"); (case k3 => rfl); (case k4 => first | rfl | decide)))
  | ((with_reducible show ED _ (tCB _ (tCons _ tNil)) _ _); refine' ed_len ?k1 ?k2; (case k1 => walk_at "ev"); (case k2 => rfl))
  | ((with_reducible show ED _ (tTup _) _ _); refine' ed_tup ?k1 ?k2; (case k1 => walk_at "es"); (case k2 => exact Nat.le_of_ble_eq_true rfl))
  | ((with_reducible show ED _ (tCall _ _ _ _) _ _); refine' ed_call ?k1 ?k2; (case k1 => walk_at "es"); (case k2 => walk_at "cl"))
  | ((with_reducible show ED _ (tCallN _ _ _ _ _ _ _) _ _); refine' ed_callK ?k1 ?k2 ?k3 ?k4 ?k5; (case k1 => walk_at "es"); (case k2 => walk_at "es"); (case k3 => walk_at "cl"); (case k4 => rfl); (case k5 => rfl))
  | ((with_reducible show ED _ (tOp (rI0 _) _ _) _ _); first
    | (refine' ed_add ?k1 ?k2; (case k1 => walk_at "ev"); (case k2 => walk_at "ev"))
    | (refine' ed_sub ?k1 ?k2; (case k1 => walk_at "ev"); (case k2 => walk_at "ev"))
    | (refine' ed_lt ?k1 ?k2; (case k1 => walk_at "ev"); (case k2 => walk_at "ev"))))
local macro_rules | `(tactic| walk_at "es") => `(tactic| first
  | ((with_reducible show EDs _ tNil _ _); exact es_nil)
  | ((with_reducible show EDs _ (tCons _ _) _ _); refine' es_cons ?k1 ?k2; (case k1 => walk_at "ev"); (case k2 => walk_at "es")))
local macro_rules | `(tactic| walk_at "eb") => `(tactic| first
  | ((with_reducible show EB _ (tTest (tOp rEq _ _)) _ _); refine' eb_eqS ?k1 ?k2 ?k3; (case k1 => walk_at "ev"); (case k2 => walk_at "ev"); (case k3 => first | decide +kernel | assumption))
  | ((with_reducible show EB _ (tTest (tOp rNe _ _)) _ _); refine' eb_neS ?k1 ?k2 ?k3; (case k1 => walk_at "ev"); (case k2 => walk_at "ev"); (case k3 => first | decide +kernel | assumption))
  | ((with_reducible show EB _ (tTest (tOp (rEqD _) _ _)) _ _); first
    | (refine' eb_ck ?k1 ?k2 ?k3 ?k4; (case k1 => walk_at "ev"); (case k2 => walk_at "ev"); (case k3 => first | rfl | decide +kernel | assumption); (case k4 => first | assumption | decide +kernel | omega))
    | (refine' eb_tyA ?k1 ?k2 ?k3 ?k4; (case k1 => walk_at "ev"); (case k2 => walk_at "ev"); (case k3 => first | rfl | decide +kernel | assumption); (case k4 => first | assumption | decide +kernel | omega))
    | (refine' eb_ty ?k1 ?k2 ?k3 ?k4 ?k5; (case k1 => walk_at "ev"); (case k2 => walk_at "ev"); (case k3 => first | assumption | rfl); (case k4 => first | assumption | decide +kernel | omega); (case k5 => first | assumption | decide +kernel | omega)))
  | ((with_reducible show EB _ (tTest (tOp (rIn _ _) _ _)) _ _); refine' eb_in ?k1 ?k2 ?k3; (case k1 => walk_at "ev"); (case k2 => walk_at "ev"); (case k3 => decide +kernel))
  | ((with_reducible show EB _ (tOr _ _) _ _); first
    | (refine' eb_or (b := true) ?k1 ?k2 ?k3; (case k1 => walk_at "eb"); (case k2 => intro z; cases z); (case k3 => intro _; rfl))
    | (refine' eb_or (b := false) ?k1 ?k2 ?k3; (case k1 => walk_at "eb"); (case k2 => intro _; walk_at "eb"); (case k3 => intro z; cases z)))
  | ((with_reducible show EB _ (tAnd _ _) _ _); first
    | (refine' eb_and (b := false) ?k1 ?k2 ?k3; (case k1 => walk_at "eb"); (case k2 => intro z; cases z); (case k3 => intro _; rfl))
    | (refine' eb_and (b := true) ?k1 ?k2 ?k3; (case k1 => walk_at "eb"); (case k2 => intro _; walk_at "eb"); (case k3 => intro z; cases z)))
  | ((with_reducible show EB _ (tNot _) _ _); first | (refine' eb_not (b := true) ?k1 rfl; (case k1 => walk_at "eb")) | (refine' eb_not (b := false) ?k1 rfl; (case k1 => walk_at "eb")))
  | ((with_reducible show EB _ (tB _) _ _); refine' eb_val ?k1; (case k1 => walk_at "ev")))
local macro_rules | `(tactic| walk_at "rd") => `(tactic| first
  | ((with_reducible show RD _ (tRet _) _ _); refine' rd_ret ?k1; (case k1 => walk_at "ev"))
  | ((with_reducible show RD _ (tSeq (tIfS _ _ tNext) _) _ _); (first
    | ((with_reducible refine' rd_skip ?k1 ?k2); (case k1 => walk_at "eb"))
    | ((with_reducible refine' rd_take ?k1 ?k2); (case k1 => walk_at "eb"))); (walk_at "rd"))
  | ((with_reducible show RD _ (tIfS _ _ _) _ _); (first
    | ((with_reducible refine' rd_yes ?k1 ?k2); (case k1 => walk_at "eb"))
    | ((with_reducible refine' rd_no ?k1 ?k2); (case k1 => walk_at "eb"))); (walk_at "rd"))
  | ((with_reducible show RD _ (tSeq _ _) _ _); (with_reducible refine' rd_sn ?k1 ?k2); (case k1 => walk_at "nd"); (case k2 => walk_at "rd")))
local macro_rules | `(tactic| walk_at "nd") => `(tactic| first
  | ((with_reducible show ND _ tNext _ _); exact nd_next)
  | ((with_reducible show ND _ (tAsg _ _) _ _); refine' nd_asg ?k1; (case k1 => walk_at "ev"))
  | ((with_reducible show ND _ (tIfS _ _ _) _ _); (first
    | ((with_reducible refine' nd_yes ?k1 ?k2); (case k1 => walk_at "eb"))
    | ((with_reducible refine' nd_no ?k1 ?k2); (case k1 => walk_at "eb"))); (walk_at "nd"))
  | ((with_reducible show ND _ (tSeq _ _) _ _); (with_reducible refine' nd_sn ?k1 ?k2); (case k1 => walk_at "nd"); (case k2 => walk_at "nd")))
local macro_rules | `(tactic| walk_at "cl") => `(tactic| first | assumption | skip)
local macro_rules | `(tactic| walk_at "gv") => `(tactic| first
  | (refine' em_ed ?k1; (case k1 => walk_at "ev"))
  | ((with_reducible show GE _ _ (tFld _ _ _) _ _ _); first
    | (refine' ge_known ?kT ?k1 ?k2; (case kT => assumption); (case k1 => walk_at "gv"); (case k2 => assumption))
    | (refine' ge_core ?kT ?k1 ?k2; (case kT => assumption); (case k1 => walk_at "gv"); (case k2 => assumption))
    | (refine' ge_num ?kT ?k1 ?k2; (case kT => assumption); (case k1 => walk_at "gv"); (case k2 => assumption)))
  | ((with_reducible show GE _ _ (tOp (rIxL _) _ (tC (V.int 0))) _ _ _); refine' ge_ixL0 ?k1 ?k2 ?k3; (case k1 => walk_at "gv"); (case k2 => assumption); (case k3 => rfl))
  | ((with_reducible show GE _ _ (tOp (rIxL _) _ (tC (V.int 1))) _ _ _); refine' ge_ixL1 ?k1 ?k2 ?k3; (case k1 => walk_at "gv"); (case k2 => assumption); (case k3 => rfl))
  | ((with_reducible show GE _ _ (tOp (rIxL _) _ (tC (V.int 2))) _ _ _); refine' ge_ixL2 ?k1 ?k2 ?k3; (case k1 => walk_at "gv"); (case k2 => assumption); (case k3 => rfl))
  | ((with_reducible show GE _ _ (tOp (rIxT _) _ (tC (V.int 0))) _ _ _); refine' ge_ix0 ?k1 ?k2; (case k1 => walk_at "gv"); (case k2 => rfl))
  | ((with_reducible show GE _ _ (tOp (rIxT _) _ (tC (V.int 1))) _ _ _); refine' ge_ix1 ?k1 ?k2; (case k1 => walk_at "gv"); (case k2 => rfl))
  | ((with_reducible show GE _ _ (tOp (rIxT _) _ (tC (V.int 2))) _ _ _); refine' ge_ix2 ?k1 ?k2; (case k1 => walk_at "gv"); (case k2 => rfl))
  | ((with_reducible show GE _ _ (tTup _) _ _ _); refine' em_tup ?k1 ?k2; (case k1 => walk_at "gs"); (case k2 => exact Nat.le_of_ble_eq_true rfl))
  | ((with_reducible show GE _ _ (tMeth _ _ _ _ _ _ _) _ _ _); refine' ge_fit ?k1 ?k2 ?k3 ?k4; (case k1 => walk_at "gv"); (case k2 => assumption); (case k3 => walk_at "gs"); (case k4 => walk_at "cl"))
  | ((with_reducible show GE _ _ (tCall (spQ _ _) _ _ _) _ _ _); refine' ge_q ?k1 ?k2; (case k1 => walk_at "gs"); (case k2 => walk_at "cl"))
  | ((with_reducible show GE _ _ (tCall (spD _ _) _ _ _) _ _ _); refine' em_call ?k1 ?k2; (case k1 => walk_at "gs"); (case k2 => walk_at "cl")))
local macro_rules | `(tactic| walk_at "gs") => `(tactic| first
  | ((with_reducible show GEs _ _ tNil _ _ _ _); exact ems_nil)
  | ((with_reducible show GEs _ _ (tCons _ _) _ _ _ _); refine' ems_cons ?k1 ?k2; (case k1 => walk_at "gv"); (case k2 => walk_at "gs")))
local macro_rules | `(tactic| walk_at "gb") => `(tactic| first
  | (refine' bm_eb ?k1; (case k1 => walk_at "eb"))
  | ((with_reducible show GB _ _ (tTest (tOp (rEqD _) _ _)) _ _ _ _); first
    | (refine' gb_tyA ?k1 ?k2 ?k3 ?k4; (case k1 => walk_at "gv"); (case k2 => walk_at "gv"); (case k3 => first | rfl | decide +kernel | assumption); (case k4 => first | assumption | decide +kernel | omega))
    | (refine' gb_ty ?k1 ?k2 ?k3 ?k4 ?k5; (case k1 => walk_at "gv"); (case k2 => walk_at "gv"); (case k3 => first | assumption | rfl); (case k4 => first | assumption | decide +kernel | omega); (case k5 => first | assumption | decide +kernel | omega)))
  | ((with_reducible show GB _ _ (tTest (tOp rNe _ _)) _ _ _ _); refine' gb_neS ?k1 ?k2 ?k3; (case k1 => walk_at "gv"); (case k2 => walk_at "gv"); (case k3 => first | decide +kernel | assumption))
  | ((with_reducible show GB _ _ (tNot _) _ _ _ _); first | (refine' bm_not (b := true) ?k1 rfl; (case k1 => walk_at "gb")) | (refine' bm_not (b := false) ?k1 rfl; (case k1 => walk_at "gb")))
  | ((with_reducible show GB _ _ (tB _) _ _ _ _); refine' gb_val ?k1; (case k1 => walk_at "gv")))
local macro_rules | `(tactic| walk_at "gr") => `(tactic| first
  | ((with_reducible show GR _ _ (tRet _) _ _ _); refine' rr_ret ?k1; (case k1 => walk_at "gv"))
  | ((with_reducible show GR _ _ (tSeq (tIfS _ _ tNext) _) _ _ _); (first
    | ((with_reducible refine' rr_skip ?k1 ?k2); (case k1 => walk_at "gb"))
    | ((with_reducible refine' rr_take ?k1 ?k2); (case k1 => walk_at "gb"))); (walk_at "gr"))
  | ((with_reducible show GR _ _ (tSeq _ _) _ _ _); (with_reducible refine' rr_sn ?k1 ?k2); (case k1 => walk_at "gn"); (case k2 => walk_at "gr")))
local macro_rules | `(tactic| walk_at "gn") => `(tactic| first
  | ((with_reducible show GN _ _ tNext _ _ _ _); exact nm_next)
  | ((with_reducible show GN _ _ (tAsg _ (gName _)) _ _ _ _); refine' nm_asg ?k1; (case k1 => walk_at "gv"))
  | ((with_reducible show GN _ _ (tAsg _ _) _ _ _ _); refine' gn_up2 ?k1; (case k1 => walk_at "gv"))
  | ((with_reducible show GN _ _ (tIfS _ _ _) _ _ _ _); (first
    | ((with_reducible refine' nm_yes ?k1 ?k2); (case k1 => walk_at "gb"))
    | ((with_reducible refine' nm_no ?k1 ?k2); (case k1 => walk_at "gb"))); (walk_at "gn"))
  | ((with_reducible show GN _ _ (tSeq _ _) _ _ _ _); (with_reducible refine' nm_sn ?k1 ?k2); (case k1 => walk_at "gn"); (case k2 => walk_at "gn")))
section
variable {P : Program} {w : World} {K : PySem.W.Frag} {mg : Str → Option Value} {base : Heap}
def RBi (K : PySem.W.Frag) (n : Nat) : CS → List D → (D → CS → Prop) → Prop := fun s l P => REl K (n + 1) s l P ∧ ∃ e p, l = [Sx.d e, .r p] ∧ ((∃ x A b, e = .fn x A b) ∨ (∃ h x A B b, e = .rc h x A B b) ∨ ∃ x a b, e = .lt x a b)
def sq2 (a b c : α) : Nat → α
  | 0 => a | 1 => b | _ => c
def sq3 (a b c d : α) : Nat → α
  | 0 => a | 1 => b | 2 => c | _ => d
theorem ok_elaborated (T : Tx w K mg) {n k : Nat} (hk : 20 ≤ k) (c_part : C8.Met P w K mg base k (CK K) "part" (spC K (RPa K n)) []) : C8.Met P w K mg base (k + 2) (CK K) "elaborated" (spC K (REl K (n + 1))) [] := by
  have c_fitted := ok_fitted (P := P) (base := base) T
  have c_bound := ok_bound (P := P) (base := base) T
  have c_composed := ok_composed (P := P) (base := base) T
  have c_simple := ok_simple (P := P) (base := base) T
  have c_binder : C8.Met P w K mg base (k + 1) (CK K) "binder" (spC K (RBi K n)) [] := ok_binder (P := P) (base := base) T (by omega) c_part
  obtain ⟨vB, uB, hBOOL, rBOOL, RB⟩ := gc_BOOL T
  obtain ⟨vI, uI, hINT, rINT, RI⟩ := gc_INT T
  obtain ⟨vU, uU, hUNIT_check, rUNIT_check, RU⟩ := gc_UNIT_check T
  have RI' : ∀ H, Rep K H (Ty.d .int) vI := RI
  have RB' : ∀ H, Rep K H (Ty.d .bool) vB := RB
  have RU' : ∀ H, Rep K H (Ty.d .unit) vU := RU
  clear RI RB RU
  refine mk_Checker_elaborated T fun fd F => ok_cr F sc_Checker_elaborated (fun st l Po h => by obtain ⟨e, p, en, pt, m, c0, rfl, _⟩ := h; rfl) fun cdv A outer s H E c st l Po hr h => ?_
  have hR := h
  obtain ⟨e, p, en, pt, m, c0, rfl, h1, h2, h3, h4, h5, rfl⟩ := h
  refine ⟨_, Wk (.t [Co.d pt.core, Ty.d pt.known]) m st.2, (pss_cons (ps_set (i := 3) sc_Checker_elaborated.nd rfl (Or.inl rfl) (pe_ix ix_tup (pv 1) pe_int (fun _ _ => rfl)))
  (pss_cons (ps_if (pt_cmpR op_eq (pv 3) pe_str (nomark _)) (pss_one (ps_ret (pe_tup (pa_cons (pv 1) (pa_cons (pe_glob rfl hINT rINT) pa_nil))))) pss_nil)
  (pss_cons (ps_if (pt_cmpR op_eq (pv 3) pe_str (nomark _)) (pss_one (ps_ret (pe_tup (pa_cons (pv 1) (pa_cons (pe_glob rfl hBOOL rBOOL) pa_nil))))) pss_nil)
  (pss_cons (ps_if (pt_cmpR op_eq (pv 3) pe_str (nomark _)) (pss_one (ps_ret (pe_tup (pa_cons (pv 1) (pa_cons (pe_glob rfl hUNIT_check rUNIT_check) pa_nil))))) pss_nil)
  (pss_cons (ps_if (pt_cmpR op_eq (pv 3) pe_str (nomark _)) (pss_one (ps_ret (pe_tup (pa_cons (pv 1) (pa_cons (C8.pe_c c_bound hr (by omega) rfl (pa_cons (pv 2) (pa_cons (pe_ix ix_tup (pv 1) pe_int (fun _ _ => rfl)) pa_nil))) pa_nil))))) pss_nil)
  (pss_cons (ps_if (pt_cmpR op_in_seq (pv 3) (pe_tup (pa_cons pe_str (pa_cons pe_str (pa_cons pe_str pa_nil)))) (by rfl)) (pss_one (ps_ret (C8.pe_mt c_binder hr (by omega) (pv 0) (pa_cons (pv 1) (pa_cons (pv 2) pa_nil))))) pss_nil)
  (pss_cons (ps_if (pt_cmpR op_eq (pv 3) pe_str (nomark _)) (pss_cons (ps_set (i := 4) sc_Checker_elaborated.nd rfl (Or.inl rfl) (C8.pe_mt c_part hr (by omega) (pv 0) (pa_cons (pe_ix ix_tup (pv 1) pe_int (fun _ _ => rfl)) (pa_cons (pv 2) pa_nil))))
  (pss_one (ps_ret (pe_tup (pa_cons (C8.pe_mt c_fitted hr (by omega) (pv 4) (pa_cons (pe_ix ix_tup (pv 1) pe_int (fun _ _ => rfl)) pa_nil)) (pa_cons (pe_ix ix_tup (pv 1) pe_int (fun _ _ => rfl)) pa_nil)))))) pss_nil)
  (pss_cons (ps_set (i := 5) sc_Checker_elaborated.nd rfl (Or.inl rfl) pe_int)
  (pss_cons (ps_if (pt_cmpR op_eq (pv 3) pe_str (nomark _)) (pss_one (ps_set (i := 5) sc_Checker_elaborated.nd rfl (Or.inl rfl) pe_int)) pss_nil)
  (pss_cons (ps_setLc (i := 6) (own := [("part", 4)]) (g := gName 4) (tt := tYes) rfl sc_Checker_elaborated.nd rfl rfl rfl (pi_tup (pe_slice sl_tup (pv 1) (po_some (pv 5)) po_none)) (blkOk_by (N := ["self", "expression", "env", "kind", "part", "signs", "parts"]) (sc := defScope s_Checker_elaborated) (by decide +kernel)) (fun _ _ _ _ _ => pg_name (i := 4) sc_Checker_elaborated.nd rfl (Or.inl rfl)) (fun _ _ _ _ _ => pts_nil) (fun _ _ _ _ _ => (C8.pe_mt c_part hr (by omega) (pv 0) (pa_cons (pv 4) (pa_cons (pv 2) pa_nil)))))
  (pss_cons (ps_if (pt_cmpR op_in_seq (pv 3) (pe_tup (pa_cons pe_str (pa_cons pe_str (pa_cons pe_str (pa_cons pe_str (pa_cons pe_str pa_nil)))))) (by rfl)) (pss_one (ps_ret (C8.pe_c c_composed hr (by omega) rfl (pa_cons (pv 3) (pa_cons (pv 6) pa_nil))))) pss_nil)
  (pss_one (ps_ret (C8.pe_c c_simple hr (by omega) rfl (pa_cons (pv 1) (pa_cons (pv 6) pa_nil)))))))))))))))), ?_, Wk.to⟩
  have d0 : ∀ (x : Str) (l : List D), Sx.d e = .t (.s x :: l) → ED K (tOp (rIxT K) (tVar 1) (tC (.int 0))) (some (.r c) :: (([Sx.d e, .r p] : List D).map some ++ List.replicate 4 none)) (.s x) := fun x l hl => ed_ix0 (l := .s x :: l) (ed_var (by rw [hl] <;> rfl)) rfl
  have mv : (fun H => CWd K c st H → EnvAt K H p en) = (fun H => CWd K c st H → EnvAt K H p en) := rfl
  have hE : ∀ H, CWd K c st H → EnvAt K H p en := fun H k => h3 H k.2.1
  cases e with
  | num i =>
    cases h5
    refine gr_wk (s' := st) (rr_sn (nm_nd (nd_asg (d0 "num" _ rfl))) ?_) (by rw [h4]) fun H k => k
    walk_at "gr"
  | flag b =>
    cases h5
    refine gr_wk (s' := st) (rr_sn (nm_nd (nd_asg (d0 "flag" _ rfl))) ?_) (by rw [h4]) fun H k => k
    walk_at "gr"
  | unit =>
    cases h5
    refine gr_wk (s' := st) (rr_sn (nm_nd (nd_asg (d0 "unit" _ rfl))) ?_) (by rw [h4]) fun H k => k
    walk_at "gr"
  | name x =>
    simp only [el, Option.map_eq_some_iff, Prod.mk.injEq] at h5
    obtain ⟨t, h5, rfl, rfl⟩ := h5
    have q1 : RBo K (CWd K c st) [.r p, .s (Nm.str x)] (Ty.d t) := ⟨p, x, en, t, rfl, hE, h5, rfl⟩
    refine gr_wk (s' := st) (rr_sn (nm_nd (nd_asg (d0 "name" _ rfl))) ?_) (by rw [h4]) fun H k => k
    walk_at "gr"
  | fn x A b =>
    refine gr_wk (s' := (m, st.2)) (rr_sn (nm_nd (nd_asg (d0 "fun" _ rfl))) ?_) rfl fun H k => k
    refine rr_skip (by walk_at "gb") (rr_skip (by walk_at "gb") (rr_skip (by walk_at "gb") (rr_skip (by walk_at "gb") (rr_take (bm_eb (eb_in (x := "fun") (ys := ["fun", "rec", "let"]) (by walk_at "ev") (by walk_at "ev") (by decide +kernel))) ?_))))
    exact rr_ret (ce_meth (R := RBi K n) cf_binder rfl (ems_ed (es_cons (ed_var rfl) (es_cons (ed_var rfl) es_nil))) ⟨hR, _, _, rfl, .inl ⟨_, _, _, rfl⟩⟩)
  | rc h x A B b =>
    refine gr_wk (s' := (m, st.2)) (rr_sn (nm_nd (nd_asg (d0 "rec" _ rfl))) ?_) rfl fun H k => k
    refine rr_skip (by walk_at "gb") (rr_skip (by walk_at "gb") (rr_skip (by walk_at "gb") (rr_skip (by walk_at "gb") (rr_take (bm_eb (eb_in (x := "rec") (ys := ["fun", "rec", "let"]) (by walk_at "ev") (by walk_at "ev") (by decide +kernel))) ?_))))
    exact rr_ret (ce_meth (R := RBi K n) cf_binder rfl (ems_ed (es_cons (ed_var rfl) (es_cons (ed_var rfl) es_nil))) ⟨hR, _, _, rfl, .inr (.inl ⟨_, _, _, _, _, rfl⟩)⟩)
  | lt x a b =>
    refine gr_wk (s' := (m, st.2)) (rr_sn (nm_nd (nd_asg (d0 "let" _ rfl))) ?_) rfl fun H k => k
    refine rr_skip (by walk_at "gb") (rr_skip (by walk_at "gb") (rr_skip (by walk_at "gb") (rr_skip (by walk_at "gb") (rr_take (bm_eb (eb_in (x := "let") (ys := ["fun", "rec", "let"]) (by walk_at "ev") (by walk_at "ev") (by decide +kernel))) ?_))))
    exact rr_ret (ce_meth (R := RBi K n) cf_binder rfl (ems_ed (es_cons (ed_var rfl) (es_cons (ed_var rfl) es_nil))) ⟨hR, _, _, rfl, .inr (.inr ⟨_, _, _, rfl⟩)⟩)
  | as b B =>
    simp only [el, Option.bind_eq_some_iff, Option.map_eq_some_iff, Prod.mk.injEq] at h5
    obtain ⟨⟨q, m'⟩, h5, y, hy, rfl, rfl⟩ := h5
    have hd : dep b + 1 ≤ n + 1 := h1
    have h2' : en.length + 2 * (dep b + 1) ≤ 900 := h2
    refine rr_sn (nm_nd (nd_asg (d0 "as" _ rfl))) (rr_skip (by walk_at "gb") (rr_skip (by walk_at "gb") (rr_skip (by walk_at "gb") (rr_skip (by walk_at "gb") (rr_skip (bm_eb (eb_in (x := "as") (ys := ["fun", "rec", "let"]) (by walk_at "ev") (by walk_at "ev") (by decide +kernel))) (rr_take (by walk_at "gb") ?_))))))
    refine rr_asgE (ce_meth (R := RPa K n) cf_part rfl (ems_ed (es_cons (d := Sx.d b) (by walk_at "ev") (es_cons (ed_var rfl) es_nil))) ⟨b, p, en, q, m', rfl, by omega, by omega, h3, by rw [h4]; exact h5, rfl⟩) fun d s1 k => ?_
    obtain ⟨ad, rfl, rfl⟩ := k
    have hp1 : ∀ H, CWd K c (m', fun H => st.2 H ∧ PartAt K H ad q) H → PartAt K H ad q := fun H k => k.2.1.2
    have q1 : RFit K (CWd K c (m', fun H => st.2 H ∧ PartAt K H ad q)) [.r ad, Ty.d B] (Co.d y) := ⟨ad, q, B, y, rfl, hp1, hy, rfl⟩
    refine gr_wk (s' := (m', fun H => st.2 H ∧ PartAt K H ad q)) ?_ rfl fun H k => k.1
    walk_at "gr"
  | call a b =>
    simp only [el, Option.bind_eq_some_iff, Option.map_eq_some_iff, Prod.mk.injEq] at h5
    obtain ⟨⟨q1, m1⟩, g1, ⟨q2, m2⟩, g2, z, hz, rfl, rfl⟩ := h5
    have hd : max (dep a) (dep b) + 1 ≤ n + 1 := h1
    have h2' : en.length + 2 * (max (dep a) (dep b) + 1) ≤ 900 := h2
    rw [← h4] at g1
    refine rr_sn (nm_nd (nd_asg (d0 "call" _ rfl))) (rr_skip (by walk_at "gb") (rr_skip (by walk_at "gb") (rr_skip (by walk_at "gb") (rr_skip (by walk_at "gb") ( rr_skip (bm_eb (eb_in (x := "call") (ys := ["fun", "rec", "let"]) (by walk_at "ev") (by walk_at "ev") (by decide +kernel))) (rr_skip (by walk_at "gb") (rr_sn (nm_nd (nd_asg ed_i)) ?_)) )))))
    refine rr_skip (by walk_at "gb") ?_
    refine rr_parts (kk := "call") (k := 1) (es := [a, b]) (pt := (fun i => match i with | 0 => q1 | _ => q2)) (cnt := (fun i => match i with | 0 => st.1 | 1 => m1 | _ => m2)) (p := p) (en := en) (n := n) rfl rfl (by decide) (Nat.le_of_ble_eq_true rfl) (Nat.le_of_ble_eq_true rfl) h3 rfl (fun i hi => ?_) fun Dl as hl => ?_
    · match i, hi with
      | 0, _ => exact ⟨by show dep a ≤ n; omega, by show en.length + 2 * dep a ≤ 900; omega, g1⟩
      | 1, _ => exact ⟨by show dep b ≤ n; omega, by show en.length + 2 * dep b ≤ 900; omega, g2⟩
    · match as, hl with
      | [x0, x1], _ =>
      have z0 : PsAt K (CWd K c (m2, fun H => st.2 H ∧ H Dl = some (.lst (([x0, x1] : List Addr).map V.ref)) ∧ PsOk K [x0, x1] (fun i => match i with | 0 => q1 | _ => q2) H)) Dl [x0, x1] := fun H k => k.2.1.2.1
      have z1 : ∀ H, CWd K c (m2, fun H => st.2 H ∧ H Dl = some (.lst (([x0, x1] : List Addr).map V.ref)) ∧ PsOk K [x0, x1] (fun i => match i with | 0 => q1 | _ => q2) H) H → PartAt K H x0 q1 := fun H k => k.2.1.2.2 0 x0 rfl
      have z2 : ∀ H, CWd K c (m2, fun H => st.2 H ∧ H Dl = some (.lst (([x0, x1] : List Addr).map V.ref)) ∧ PsOk K [x0, x1] (fun i => match i with | 0 => q1 | _ => q2) H) H → PartAt K H x1 q2 := fun H k => k.2.1.2.2 1 x1 rfl
      refine gr_wk (s' := (m2, fun H => st.2 H ∧ H Dl = some (.lst (([x0, x1] : List Addr).map V.ref)) ∧ PsOk K [x0, x1] (fun i => match i with | 0 => q1 | _ => q2) H)) ?_ rfl fun H k => k.1
      have q0 : RCmp K (CWd K c (m2, fun H => st.2 H ∧ H Dl = some (.lst (([x0, x1] : List Addr).map V.ref)) ∧ PsOk K [x0, x1] (fun i => match i with | 0 => q1 | _ => q2) H)) [.s "call", .r Dl] (.t [Co.d z.1, Ty.d z.2]) := ⟨Dl, [x0, x1], z0, .inl ⟨x0, x1, q1, q2, z, rfl, rfl, z1, z2, hz, rfl⟩⟩
      refine rr_take (bm_eb (eb_in (x := "call") (ys := ["call", "if", "pair", "fst", "snd"]) (by walk_at "ev") (by walk_at "ev") (by decide +kernel))) ?_
      exact rr_ret (ge_q (ems_ed (es_cons (ed_var rfl) (es_cons (ed_var rfl) es_nil))) q0)
  | ife a b d =>
    simp only [el, Option.bind_eq_some_iff, Option.map_eq_some_iff, Prod.mk.injEq] at h5
    obtain ⟨⟨q1, m1⟩, g1, ⟨q2, m2⟩, g2, ⟨q3, m3⟩, g3, z, hz, rfl, rfl⟩ := h5
    have hd : max (dep a) (max (dep b) (dep d)) + 1 ≤ n + 1 := h1
    have h2' : en.length + 2 * (max (dep a) (max (dep b) (dep d)) + 1) ≤ 900 := h2
    rw [← h4] at g1
    refine rr_sn (nm_nd (nd_asg (d0 "if" _ rfl))) (rr_skip (by walk_at "gb") (rr_skip (by walk_at "gb") (rr_skip (by walk_at "gb") (rr_skip (by walk_at "gb") ( rr_skip (bm_eb (eb_in (x := "if") (ys := ["fun", "rec", "let"]) (by walk_at "ev") (by walk_at "ev") (by decide +kernel))) (rr_skip (by walk_at "gb") (rr_sn (nm_nd (nd_asg ed_i)) ?_)) )))))
    refine rr_skip (by walk_at "gb") ?_
    refine rr_parts (kk := "if") (k := 1) (es := [a, b, d]) (pt := (fun i => match i with | 0 => q1 | 1 => q2 | _ => q3)) (cnt := (fun i => match i with | 0 => st.1 | 1 => m1 | 2 => m2 | _ => m3)) (p := p) (en := en) (n := n) rfl rfl (by decide) (Nat.le_of_ble_eq_true rfl) (Nat.le_of_ble_eq_true rfl) h3 rfl (fun i hi => ?_) fun Dl as hl => ?_
    · match i, hi with
      | 0, _ => exact ⟨by show dep a ≤ n; omega, by show en.length + 2 * dep a ≤ 900; omega, g1⟩
      | 1, _ => exact ⟨by show dep b ≤ n; omega, by show en.length + 2 * dep b ≤ 900; omega, g2⟩
      | 2, _ => exact ⟨by show dep d ≤ n; omega, by show en.length + 2 * dep d ≤ 900; omega, g3⟩
    · match as, hl with
      | [x0, x1, x2], _ =>
      have z0 : PsAt K (CWd K c (m3, fun H => st.2 H ∧ H Dl = some (.lst (([x0, x1, x2] : List Addr).map V.ref)) ∧ PsOk K [x0, x1, x2] (fun i => match i with | 0 => q1 | 1 => q2 | _ => q3) H)) Dl [x0, x1, x2] := fun H k => k.2.1.2.1
      have z1 : ∀ H, CWd K c (m3, fun H => st.2 H ∧ H Dl = some (.lst (([x0, x1, x2] : List Addr).map V.ref)) ∧ PsOk K [x0, x1, x2] (fun i => match i with | 0 => q1 | 1 => q2 | _ => q3) H) H → PartAt K H x0 q1 := fun H k => k.2.1.2.2 0 x0 rfl
      have z2 : ∀ H, CWd K c (m3, fun H => st.2 H ∧ H Dl = some (.lst (([x0, x1, x2] : List Addr).map V.ref)) ∧ PsOk K [x0, x1, x2] (fun i => match i with | 0 => q1 | 1 => q2 | _ => q3) H) H → PartAt K H x1 q2 := fun H k => k.2.1.2.2 1 x1 rfl
      have z3 : ∀ H, CWd K c (m3, fun H => st.2 H ∧ H Dl = some (.lst (([x0, x1, x2] : List Addr).map V.ref)) ∧ PsOk K [x0, x1, x2] (fun i => match i with | 0 => q1 | 1 => q2 | _ => q3) H) H → PartAt K H x2 q3 := fun H k => k.2.1.2.2 2 x2 rfl
      refine gr_wk (s' := (m3, fun H => st.2 H ∧ H Dl = some (.lst (([x0, x1, x2] : List Addr).map V.ref)) ∧ PsOk K [x0, x1, x2] (fun i => match i with | 0 => q1 | 1 => q2 | _ => q3) H)) ?_ rfl fun H k => k.1
      have q0 : RCmp K (CWd K c (m3, fun H => st.2 H ∧ H Dl = some (.lst (([x0, x1, x2] : List Addr).map V.ref)) ∧ PsOk K [x0, x1, x2] (fun i => match i with | 0 => q1 | 1 => q2 | _ => q3) H)) [.s "if", .r Dl] (.t [Co.d z.1, Ty.d z.2]) := ⟨Dl, [x0, x1, x2], z0, .inr (.inl ⟨x0, x1, x2, q1, q2, q3, z, rfl, rfl, z1, z2, z3, hz, rfl⟩)⟩
      refine rr_take (bm_eb (eb_in (x := "if") (ys := ["call", "if", "pair", "fst", "snd"]) (by walk_at "ev") (by walk_at "ev") (by decide +kernel))) ?_
      exact rr_ret (ge_q (ems_ed (es_cons (ed_var rfl) (es_cons (ed_var rfl) es_nil))) q0)
  | pr a b =>
    simp only [el, Option.bind_eq_some_iff, Option.map_eq_some_iff, Prod.mk.injEq] at h5
    obtain ⟨⟨q1, m1⟩, g1, ⟨q2, m2⟩, g2, rfl, rfl⟩ := h5
    have hd : max (dep a) (dep b) + 1 ≤ n + 1 := h1
    have h2' : en.length + 2 * (max (dep a) (dep b) + 1) ≤ 900 := h2
    rw [← h4] at g1
    refine rr_sn (nm_nd (nd_asg (d0 "pair" _ rfl))) (rr_skip (by walk_at "gb") (rr_skip (by walk_at "gb") (rr_skip (by walk_at "gb") (rr_skip (by walk_at "gb") ( rr_skip (bm_eb (eb_in (x := "pair") (ys := ["fun", "rec", "let"]) (by walk_at "ev") (by walk_at "ev") (by decide +kernel))) (rr_skip (by walk_at "gb") (rr_sn (nm_nd (nd_asg ed_i)) ?_)) )))))
    refine rr_skip (by walk_at "gb") ?_
    refine rr_parts (kk := "pair") (k := 1) (es := [a, b]) (pt := (fun i => match i with | 0 => q1 | _ => q2)) (cnt := (fun i => match i with | 0 => st.1 | 1 => m1 | _ => m2)) (p := p) (en := en) (n := n) rfl rfl (by decide) (Nat.le_of_ble_eq_true rfl) (Nat.le_of_ble_eq_true rfl) h3 rfl (fun i hi => ?_) fun Dl as hl => ?_
    · match i, hi with
      | 0, _ => exact ⟨by show dep a ≤ n; omega, by show en.length + 2 * dep a ≤ 900; omega, g1⟩
      | 1, _ => exact ⟨by show dep b ≤ n; omega, by show en.length + 2 * dep b ≤ 900; omega, g2⟩
    · match as, hl with
      | [x0, x1], _ =>
      have z0 : PsAt K (CWd K c (m2, fun H => st.2 H ∧ H Dl = some (.lst (([x0, x1] : List Addr).map V.ref)) ∧ PsOk K [x0, x1] (fun i => match i with | 0 => q1 | _ => q2) H)) Dl [x0, x1] := fun H k => k.2.1.2.1
      have z1 : ∀ H, CWd K c (m2, fun H => st.2 H ∧ H Dl = some (.lst (([x0, x1] : List Addr).map V.ref)) ∧ PsOk K [x0, x1] (fun i => match i with | 0 => q1 | _ => q2) H) H → PartAt K H x0 q1 := fun H k => k.2.1.2.2 0 x0 rfl
      have z2 : ∀ H, CWd K c (m2, fun H => st.2 H ∧ H Dl = some (.lst (([x0, x1] : List Addr).map V.ref)) ∧ PsOk K [x0, x1] (fun i => match i with | 0 => q1 | _ => q2) H) H → PartAt K H x1 q2 := fun H k => k.2.1.2.2 1 x1 rfl
      refine gr_wk (s' := (m2, fun H => st.2 H ∧ H Dl = some (.lst (([x0, x1] : List Addr).map V.ref)) ∧ PsOk K [x0, x1] (fun i => match i with | 0 => q1 | _ => q2) H)) ?_ rfl fun H k => k.1
      have q0 : RCmp K (CWd K c (m2, fun H => st.2 H ∧ H Dl = some (.lst (([x0, x1] : List Addr).map V.ref)) ∧ PsOk K [x0, x1] (fun i => match i with | 0 => q1 | _ => q2) H)) [.s "pair", .r Dl] (.t [Co.d (Co.pr q1.core q2.core, Ty.pr q1.known q2.known).1, Ty.d (Co.pr q1.core q2.core, Ty.pr q1.known q2.known).2]) := ⟨Dl, [x0, x1], z0, .inr (.inr ⟨x0, x1, q1, q2, rfl, rfl, z1, z2, rfl⟩)⟩
      refine rr_take (bm_eb (eb_in (x := "pair") (ys := ["call", "if", "pair", "fst", "snd"]) (by walk_at "ev") (by walk_at "ev") (by decide +kernel))) ?_
      exact rr_ret (ge_q (ems_ed (es_cons (ed_var rfl) (es_cons (ed_var rfl) es_nil))) q0)
  | bx a =>
    simp only [el, Option.bind_eq_some_iff, Option.map_eq_some_iff, Prod.mk.injEq] at h5
    obtain ⟨⟨q1, m1⟩, g1, rfl, rfl⟩ := h5
    have hd : dep a + 1 ≤ n + 1 := h1
    have h2' : en.length + 2 * (dep a + 1) ≤ 900 := h2
    rw [← h4] at g1
    refine rr_sn (nm_nd (nd_asg (d0 "box" _ rfl))) (rr_skip (by walk_at "gb") (rr_skip (by walk_at "gb") (rr_skip (by walk_at "gb") (rr_skip (by walk_at "gb") ( rr_skip (bm_eb (eb_in (x := "box") (ys := ["fun", "rec", "let"]) (by walk_at "ev") (by walk_at "ev") (by decide +kernel))) (rr_skip (by walk_at "gb") (rr_sn (nm_nd (nd_asg ed_i)) ?_)) )))))
    refine rr_skip (by walk_at "gb") ?_
    refine rr_parts (kk := "box") (k := 1) (es := [a]) (pt := (fun i => match i with | _ => q1)) (cnt := (fun i => match i with | 0 => st.1 | _ => m1)) (p := p) (en := en) (n := n) rfl rfl (by decide) (Nat.le_of_ble_eq_true rfl) (Nat.le_of_ble_eq_true rfl) h3 rfl (fun i hi => ?_) fun Dl as hl => ?_
    · match i, hi with
      | 0, _ => exact ⟨by show dep a ≤ n; omega, by show en.length + 2 * dep a ≤ 900; omega, g1⟩
    · match as, hl with
      | [x0], _ =>
      have z0 : PsAt K (CWd K c (m1, fun H => st.2 H ∧ H Dl = some (.lst (([x0] : List Addr).map V.ref)) ∧ PsOk K [x0] (fun i => match i with | _ => q1) H)) Dl [x0] := fun H k => k.2.1.2.1
      have z1 : ∀ H, CWd K c (m1, fun H => st.2 H ∧ H Dl = some (.lst (([x0] : List Addr).map V.ref)) ∧ PsOk K [x0] (fun i => match i with | _ => q1) H) H → PartAt K H x0 q1 := fun H k => k.2.1.2.2 0 x0 rfl
      refine gr_wk (s' := (m1, fun H => st.2 H ∧ H Dl = some (.lst (([x0] : List Addr).map V.ref)) ∧ PsOk K [x0] (fun i => match i with | _ => q1) H)) ?_ rfl fun H k => k.1
      have q0 : RSim K (CWd K c (m1, fun H => st.2 H ∧ H Dl = some (.lst (([x0] : List Addr).map V.ref)) ∧ PsOk K [x0] (fun i => match i with | _ => q1) H)) [Sx.d (.bx a), .r Dl] (.t [Co.d (Co.bx q1.core, Ty.bx q1.known).1, Ty.d (Co.bx q1.core, Ty.bx q1.known).2]) := ⟨Dl, [x0], _, z0, rfl, .inl ⟨a, x0, q1, rfl, rfl, z1, rfl⟩⟩
      refine rr_skip (bm_eb (eb_in (x := "box") (ys := ["call", "if", "pair", "fst", "snd"]) (by walk_at "ev") (by walk_at "ev") (by decide +kernel))) ?_
      exact rr_ret (ge_q (ems_ed (es_cons (ed_var rfl) (es_cons (ed_var rfl) es_nil))) q0)
  | get a =>
    simp only [el, Option.bind_eq_some_iff, Option.map_eq_some_iff, Prod.mk.injEq] at h5
    obtain ⟨⟨q1, m1⟩, g1, z, hz, rfl, rfl⟩ := h5
    have hd : dep a + 1 ≤ n + 1 := h1
    have h2' : en.length + 2 * (dep a + 1) ≤ 900 := h2
    rw [← h4] at g1
    refine rr_sn (nm_nd (nd_asg (d0 "get" _ rfl))) (rr_skip (by walk_at "gb") (rr_skip (by walk_at "gb") (rr_skip (by walk_at "gb") (rr_skip (by walk_at "gb") ( rr_skip (bm_eb (eb_in (x := "get") (ys := ["fun", "rec", "let"]) (by walk_at "ev") (by walk_at "ev") (by decide +kernel))) (rr_skip (by walk_at "gb") (rr_sn (nm_nd (nd_asg ed_i)) ?_)) )))))
    refine rr_skip (by walk_at "gb") ?_
    refine rr_parts (kk := "get") (k := 1) (es := [a]) (pt := (fun i => match i with | _ => q1)) (cnt := (fun i => match i with | 0 => st.1 | _ => m1)) (p := p) (en := en) (n := n) rfl rfl (by decide) (Nat.le_of_ble_eq_true rfl) (Nat.le_of_ble_eq_true rfl) h3 rfl (fun i hi => ?_) fun Dl as hl => ?_
    · match i, hi with
      | 0, _ => exact ⟨by show dep a ≤ n; omega, by show en.length + 2 * dep a ≤ 900; omega, g1⟩
    · match as, hl with
      | [x0], _ =>
      have z0 : PsAt K (CWd K c (m1, fun H => st.2 H ∧ H Dl = some (.lst (([x0] : List Addr).map V.ref)) ∧ PsOk K [x0] (fun i => match i with | _ => q1) H)) Dl [x0] := fun H k => k.2.1.2.1
      have z1 : ∀ H, CWd K c (m1, fun H => st.2 H ∧ H Dl = some (.lst (([x0] : List Addr).map V.ref)) ∧ PsOk K [x0] (fun i => match i with | _ => q1) H) H → PartAt K H x0 q1 := fun H k => k.2.1.2.2 0 x0 rfl
      refine gr_wk (s' := (m1, fun H => st.2 H ∧ H Dl = some (.lst (([x0] : List Addr).map V.ref)) ∧ PsOk K [x0] (fun i => match i with | _ => q1) H)) ?_ rfl fun H k => k.1
      have q0 : RSim K (CWd K c (m1, fun H => st.2 H ∧ H Dl = some (.lst (([x0] : List Addr).map V.ref)) ∧ PsOk K [x0] (fun i => match i with | _ => q1) H)) [Sx.d (.get a), .r Dl] (.t [Co.d z.1, Ty.d z.2]) := ⟨Dl, [x0], _, z0, rfl, .inr (.inl ⟨a, x0, q1, z, rfl, rfl, z1, hz, rfl⟩)⟩
      refine rr_skip (bm_eb (eb_in (x := "get") (ys := ["call", "if", "pair", "fst", "snd"]) (by walk_at "ev") (by walk_at "ev") (by decide +kernel))) ?_
      exact rr_ret (ge_q (ems_ed (es_cons (ed_var rfl) (es_cons (ed_var rfl) es_nil))) q0)
  | put a b =>
    simp only [el, Option.bind_eq_some_iff, Option.map_eq_some_iff, Prod.mk.injEq] at h5
    obtain ⟨⟨q1, m1⟩, g1, ⟨q2, m2⟩, g2, z, hz, rfl, rfl⟩ := h5
    have hd : max (dep a) (dep b) + 1 ≤ n + 1 := h1
    have h2' : en.length + 2 * (max (dep a) (dep b) + 1) ≤ 900 := h2
    rw [← h4] at g1
    refine rr_sn (nm_nd (nd_asg (d0 "put" _ rfl))) (rr_skip (by walk_at "gb") (rr_skip (by walk_at "gb") (rr_skip (by walk_at "gb") (rr_skip (by walk_at "gb") ( rr_skip (bm_eb (eb_in (x := "put") (ys := ["fun", "rec", "let"]) (by walk_at "ev") (by walk_at "ev") (by decide +kernel))) (rr_skip (by walk_at "gb") (rr_sn (nm_nd (nd_asg ed_i)) ?_)) )))))
    refine rr_skip (by walk_at "gb") ?_
    refine rr_parts (kk := "put") (k := 1) (es := [a, b]) (pt := (fun i => match i with | 0 => q1 | _ => q2)) (cnt := (fun i => match i with | 0 => st.1 | 1 => m1 | _ => m2)) (p := p) (en := en) (n := n) rfl rfl (by decide) (Nat.le_of_ble_eq_true rfl) (Nat.le_of_ble_eq_true rfl) h3 rfl (fun i hi => ?_) fun Dl as hl => ?_
    · match i, hi with
      | 0, _ => exact ⟨by show dep a ≤ n; omega, by show en.length + 2 * dep a ≤ 900; omega, g1⟩
      | 1, _ => exact ⟨by show dep b ≤ n; omega, by show en.length + 2 * dep b ≤ 900; omega, g2⟩
    · match as, hl with
      | [x0, x1], _ =>
      have z0 : PsAt K (CWd K c (m2, fun H => st.2 H ∧ H Dl = some (.lst (([x0, x1] : List Addr).map V.ref)) ∧ PsOk K [x0, x1] (fun i => match i with | 0 => q1 | _ => q2) H)) Dl [x0, x1] := fun H k => k.2.1.2.1
      have z1 : ∀ H, CWd K c (m2, fun H => st.2 H ∧ H Dl = some (.lst (([x0, x1] : List Addr).map V.ref)) ∧ PsOk K [x0, x1] (fun i => match i with | 0 => q1 | _ => q2) H) H → PartAt K H x0 q1 := fun H k => k.2.1.2.2 0 x0 rfl
      have z2 : ∀ H, CWd K c (m2, fun H => st.2 H ∧ H Dl = some (.lst (([x0, x1] : List Addr).map V.ref)) ∧ PsOk K [x0, x1] (fun i => match i with | 0 => q1 | _ => q2) H) H → PartAt K H x1 q2 := fun H k => k.2.1.2.2 1 x1 rfl
      refine gr_wk (s' := (m2, fun H => st.2 H ∧ H Dl = some (.lst (([x0, x1] : List Addr).map V.ref)) ∧ PsOk K [x0, x1] (fun i => match i with | 0 => q1 | _ => q2) H)) ?_ rfl fun H k => k.1
      have q0 : RSim K (CWd K c (m2, fun H => st.2 H ∧ H Dl = some (.lst (([x0, x1] : List Addr).map V.ref)) ∧ PsOk K [x0, x1] (fun i => match i with | 0 => q1 | _ => q2) H)) [Sx.d (.put a b), .r Dl] (.t [Co.d z.1, Ty.d z.2]) := ⟨Dl, [x0, x1], _, z0, rfl, .inr (.inr (.inl ⟨a, b, x0, x1, q1, q2, z, rfl, rfl, z1, z2, hz, rfl⟩))⟩
      refine rr_skip (bm_eb (eb_in (x := "put") (ys := ["call", "if", "pair", "fst", "snd"]) (by walk_at "ev") (by walk_at "ev") (by decide +kernel))) ?_
      exact rr_ret (ge_q (ems_ed (es_cons (ed_var rfl) (es_cons (ed_var rfl) es_nil))) q0)
  | op o a b =>
    simp only [el, Option.bind_eq_some_iff, Option.map_eq_some_iff, Prod.mk.injEq] at h5
    obtain ⟨⟨q1, m1⟩, g1, ⟨q2, m2⟩, g2, z, hz, rfl, rfl⟩ := h5
    have hd : max (dep a) (dep b) + 1 ≤ n + 1 := h1
    have h2' : en.length + 2 * (max (dep a) (dep b) + 1) ≤ 900 := h2
    rw [← h4] at g1
    refine rr_sn (nm_nd (nd_asg (d0 "op" _ rfl))) (rr_skip (by walk_at "gb") (rr_skip (by walk_at "gb") (rr_skip (by walk_at "gb") (rr_skip (by walk_at "gb") ( rr_skip (bm_eb (eb_in (x := "op") (ys := ["fun", "rec", "let"]) (by walk_at "ev") (by walk_at "ev") (by decide +kernel))) (rr_skip (by walk_at "gb") (rr_sn (nm_nd (nd_asg ed_i)) ?_)) )))))
    refine rr_sn (nm_yes (by walk_at "gb") (nm_nd (nd_asg ed_i))) ?_
    refine rr_parts (kk := "op") (k := 2) (es := [a, b]) (pt := (fun i => match i with | 0 => q1 | _ => q2)) (cnt := (fun i => match i with | 0 => st.1 | 1 => m1 | _ => m2)) (p := p) (en := en) (n := n) rfl rfl (by decide) (Nat.le_of_ble_eq_true rfl) (Nat.le_of_ble_eq_true rfl) h3 rfl (fun i hi => ?_) fun Dl as hl => ?_
    · match i, hi with
      | 0, _ => exact ⟨by show dep a ≤ n; omega, by show en.length + 2 * dep a ≤ 900; omega, g1⟩
      | 1, _ => exact ⟨by show dep b ≤ n; omega, by show en.length + 2 * dep b ≤ 900; omega, g2⟩
    · match as, hl with
      | [x0, x1], _ =>
      have z0 : PsAt K (CWd K c (m2, fun H => st.2 H ∧ H Dl = some (.lst (([x0, x1] : List Addr).map V.ref)) ∧ PsOk K [x0, x1] (fun i => match i with | 0 => q1 | _ => q2) H)) Dl [x0, x1] := fun H k => k.2.1.2.1
      have z1 : ∀ H, CWd K c (m2, fun H => st.2 H ∧ H Dl = some (.lst (([x0, x1] : List Addr).map V.ref)) ∧ PsOk K [x0, x1] (fun i => match i with | 0 => q1 | _ => q2) H) H → PartAt K H x0 q1 := fun H k => k.2.1.2.2 0 x0 rfl
      have z2 : ∀ H, CWd K c (m2, fun H => st.2 H ∧ H Dl = some (.lst (([x0, x1] : List Addr).map V.ref)) ∧ PsOk K [x0, x1] (fun i => match i with | 0 => q1 | _ => q2) H) H → PartAt K H x1 q2 := fun H k => k.2.1.2.2 1 x1 rfl
      refine gr_wk (s' := (m2, fun H => st.2 H ∧ H Dl = some (.lst (([x0, x1] : List Addr).map V.ref)) ∧ PsOk K [x0, x1] (fun i => match i with | 0 => q1 | _ => q2) H)) ?_ rfl fun H k => k.1
      have q0 : RSim K (CWd K c (m2, fun H => st.2 H ∧ H Dl = some (.lst (([x0, x1] : List Addr).map V.ref)) ∧ PsOk K [x0, x1] (fun i => match i with | 0 => q1 | _ => q2) H)) [Sx.d (.op o a b), .r Dl] (.t [Co.d z.1, Ty.d z.2]) := ⟨Dl, [x0, x1], _, z0, rfl, .inr (.inr (.inr ⟨o, a, b, x0, x1, q1, q2, z, rfl, rfl, z1, z2, hz, rfl⟩))⟩
      refine rr_skip (bm_eb (eb_in (x := "op") (ys := ["call", "if", "pair", "fst", "snd"]) (by walk_at "ev") (by walk_at "ev") (by decide +kernel))) ?_
      exact rr_ret (ge_q (ems_ed (es_cons (ed_var rfl) (es_cons (ed_var rfl) es_nil))) q0)
end
end Hn
end

/- HnW18 -/
section
set_option Elab.async false
set_option linter.all false
set_option maxRecDepth 100000
set_option maxHeartbeats 4000000
namespace Hn
open PySem PySem.Spec PyProof.Rows L2 Evl
local macro_rules | `(tactic| walk_at "ev") => `(tactic| first
  | ((with_reducible show ED _ (tVar _) _ _); exact ed_var rfl)
  | ((with_reducible show ED _ (tC _) _ _); first | exact ed_s | exact ed_i | exact ed_b | exact ed_n | exact ed_c (by assumption))
  | ((with_reducible show ED _ (tOp (rIxT _) _ (tC (V.int 0))) _ _); refine' ed_ix0 ?k1 ?k2; (case k1 => walk_at "ev"); (case k2 => rfl))
  | ((with_reducible show ED _ (tOp (rIxT _) _ (tC (V.int 1))) _ _); refine' ed_ix1 ?k1 ?k2; (case k1 => walk_at "ev"); (case k2 => rfl))
  | ((with_reducible show ED _ (tOp (rIxT _) _ (tC (V.int 2))) _ _); refine' ed_ix2 ?k1 ?k2; (case k1 => walk_at "ev"); (case k2 => rfl))
  | ((with_reducible show ED _ (tOp (rIxT _) _ (tC (V.int 3))) _ _); refine' ed_ix3 ?k1 ?k2; (case k1 => walk_at "ev"); (case k2 => rfl))
  | ((with_reducible show ED _ (tOp (rIxT _) _ (tC (V.int 4))) _ _); refine' ed_ix4 ?k1 ?k2; (case k1 => walk_at "ev"); (case k2 => rfl))
  | ((with_reducible show ED _ (tOp (rIxT _) _ (tC (V.int 5))) _ _); refine' ed_ix5 ?k1 ?k2; (case k1 => walk_at "ev"); (case k2 => rfl))
  | ((with_reducible show ED _ (tOp (rIxT _) _ (tVar _)) _ _); first
    | (refine' ed_ixE (j := 1) ?k1 ?k2 ?k3 ?k4; (case k1 => walk_at "ev"); (case k2 => walk_at "ev"); (case k3 => rfl); (case k4 => first | rfl | decide))
    | (refine' ed_ixE (j := 2) ?k1 ?k2 ?k3 ?k4; (case k1 => walk_at "ev"); (case k2 => walk_at "ev"); (case k3 => rfl); (case k4 => first | rfl | decide)))
  | ((with_reducible show ED _ (tCB _ (tCons _ tNil)) _ _); refine' ed_len ?k1 ?k2; (case k1 => walk_at "ev"); (case k2 => rfl))
  | ((with_reducible show ED _ (tTup _) _ _); refine' ed_tup ?k1 ?k2; (case k1 => walk_at "es"); (case k2 => exact Nat.le_of_ble_eq_true rfl))
  | ((with_reducible show ED _ (tCall _ _ _ _) _ _); refine' ed_call ?k1 ?k2; (case k1 => walk_at "es"); (case k2 => walk_at "cl"))
  | ((with_reducible show ED _ (tCallN _ _ _ _ _ _ _) _ _); refine' ed_callK ?k1 ?k2 ?k3 ?k4 ?k5; (case k1 => walk_at "es"); (case k2 => walk_at "es"); (case k3 => walk_at "cl"); (case k4 => rfl); (case k5 => rfl))
  | ((with_reducible show ED _ (tOp (rI0 _) _ _) _ _); first
    | (refine' ed_add ?k1 ?k2; (case k1 => walk_at "ev"); (case k2 => walk_at "ev"))
    | (refine' ed_sub ?k1 ?k2; (case k1 => walk_at "ev"); (case k2 => walk_at "ev"))
    | (refine' ed_lt ?k1 ?k2; (case k1 => walk_at "ev"); (case k2 => walk_at "ev"))))
local macro_rules | `(tactic| walk_at "es") => `(tactic| first
  | ((with_reducible show EDs _ tNil _ _); exact es_nil)
  | ((with_reducible show EDs _ (tCons _ _) _ _); refine' es_cons ?k1 ?k2; (case k1 => walk_at "ev"); (case k2 => walk_at "es")))
local macro_rules | `(tactic| walk_at "eb") => `(tactic| first
  | ((with_reducible show EB _ (tTest (tOp rEq _ _)) _ _); refine' eb_eqS ?k1 ?k2 ?k3; (case k1 => walk_at "ev"); (case k2 => walk_at "ev"); (case k3 => first | decide +kernel | assumption))
  | ((with_reducible show EB _ (tTest (tOp rNe _ _)) _ _); refine' eb_neS ?k1 ?k2 ?k3; (case k1 => walk_at "ev"); (case k2 => walk_at "ev"); (case k3 => first | decide +kernel | assumption))
  | ((with_reducible show EB _ (tTest (tOp (rEqD _) _ _)) _ _); first
    | (refine' eb_ck ?k1 ?k2 ?k3 ?k4; (case k1 => walk_at "ev"); (case k2 => walk_at "ev"); (case k3 => first | rfl | decide +kernel | assumption); (case k4 => first | assumption | decide +kernel | omega))
    | (refine' eb_tyA ?k1 ?k2 ?k3 ?k4; (case k1 => walk_at "ev"); (case k2 => walk_at "ev"); (case k3 => first | rfl | decide +kernel | assumption); (case k4 => first | assumption | decide +kernel | omega))
    | (refine' eb_ty ?k1 ?k2 ?k3 ?k4 ?k5; (case k1 => walk_at "ev"); (case k2 => walk_at "ev"); (case k3 => first | assumption | rfl); (case k4 => first | assumption | decide +kernel | omega); (case k5 => first | assumption | decide +kernel | omega)))
  | ((with_reducible show EB _ (tTest (tOp (rIn _ _) _ _)) _ _); refine' eb_in ?k1 ?k2 ?k3; (case k1 => walk_at "ev"); (case k2 => walk_at "ev"); (case k3 => decide +kernel))
  | ((with_reducible show EB _ (tOr _ _) _ _); first
    | (refine' eb_or (b := true) ?k1 ?k2 ?k3; (case k1 => walk_at "eb"); (case k2 => intro z; cases z); (case k3 => intro _; rfl))
    | (refine' eb_or (b := false) ?k1 ?k2 ?k3; (case k1 => walk_at "eb"); (case k2 => intro _; walk_at "eb"); (case k3 => intro z; cases z)))
  | ((with_reducible show EB _ (tAnd _ _) _ _); first
    | (refine' eb_and (b := false) ?k1 ?k2 ?k3; (case k1 => walk_at "eb"); (case k2 => intro z; cases z); (case k3 => intro _; rfl))
    | (refine' eb_and (b := true) ?k1 ?k2 ?k3; (case k1 => walk_at "eb"); (case k2 => intro _; walk_at "eb"); (case k3 => intro z; cases z)))
  | ((with_reducible show EB _ (tNot _) _ _); first | (refine' eb_not (b := true) ?k1 rfl; (case k1 => walk_at "eb")) | (refine' eb_not (b := false) ?k1 rfl; (case k1 => walk_at "eb")))
  | ((with_reducible show EB _ (tB _) _ _); refine' eb_val ?k1; (case k1 => walk_at "ev")))
local macro_rules | `(tactic| walk_at "rd") => `(tactic| first
  | ((with_reducible show RD _ (tRet _) _ _); refine' rd_ret ?k1; (case k1 => walk_at "ev"))
  | ((with_reducible show RD _ (tSeq (tIfS _ _ tNext) _) _ _); (first
    | ((with_reducible refine' rd_skip ?k1 ?k2); (case k1 => walk_at "eb"))
    | ((with_reducible refine' rd_take ?k1 ?k2); (case k1 => walk_at "eb"))); (walk_at "rd"))
  | ((with_reducible show RD _ (tIfS _ _ _) _ _); (first
    | ((with_reducible refine' rd_yes ?k1 ?k2); (case k1 => walk_at "eb"))
    | ((with_reducible refine' rd_no ?k1 ?k2); (case k1 => walk_at "eb"))); (walk_at "rd"))
  | ((with_reducible show RD _ (tSeq _ _) _ _); (with_reducible refine' rd_sn ?k1 ?k2); (case k1 => walk_at "nd"); (case k2 => walk_at "rd")))
local macro_rules | `(tactic| walk_at "nd") => `(tactic| first
  | ((with_reducible show ND _ tNext _ _); exact nd_next)
  | ((with_reducible show ND _ (tAsg _ _) _ _); refine' nd_asg ?k1; (case k1 => walk_at "ev"))
  | ((with_reducible show ND _ (tIfS _ _ _) _ _); (first
    | ((with_reducible refine' nd_yes ?k1 ?k2); (case k1 => walk_at "eb"))
    | ((with_reducible refine' nd_no ?k1 ?k2); (case k1 => walk_at "eb"))); (walk_at "nd"))
  | ((with_reducible show ND _ (tSeq _ _) _ _); (with_reducible refine' nd_sn ?k1 ?k2); (case k1 => walk_at "nd"); (case k2 => walk_at "nd")))
local macro_rules | `(tactic| walk_at "cl") => `(tactic| first | assumption | skip)
local macro_rules | `(tactic| walk_at "gv") => `(tactic| first
  | (refine' em_ed ?k1; (case k1 => walk_at "ev"))
  | ((with_reducible show GE _ _ (tFld _ _ _) _ _ _); first
    | (refine' ge_known ?kT ?k1 ?k2; (case kT => assumption); (case k1 => walk_at "gv"); (case k2 => assumption))
    | (refine' ge_core ?kT ?k1 ?k2; (case kT => assumption); (case k1 => walk_at "gv"); (case k2 => assumption))
    | (refine' ge_num ?kT ?k1 ?k2; (case kT => assumption); (case k1 => walk_at "gv"); (case k2 => assumption)))
  | ((with_reducible show GE _ _ (tOp (rIxL _) _ (tC (V.int 0))) _ _ _); refine' ge_ixL0 ?k1 ?k2 ?k3; (case k1 => walk_at "gv"); (case k2 => assumption); (case k3 => rfl))
  | ((with_reducible show GE _ _ (tOp (rIxL _) _ (tC (V.int 1))) _ _ _); refine' ge_ixL1 ?k1 ?k2 ?k3; (case k1 => walk_at "gv"); (case k2 => assumption); (case k3 => rfl))
  | ((with_reducible show GE _ _ (tOp (rIxL _) _ (tC (V.int 2))) _ _ _); refine' ge_ixL2 ?k1 ?k2 ?k3; (case k1 => walk_at "gv"); (case k2 => assumption); (case k3 => rfl))
  | ((with_reducible show GE _ _ (tOp (rIxT _) _ (tC (V.int 0))) _ _ _); refine' ge_ix0 ?k1 ?k2; (case k1 => walk_at "gv"); (case k2 => rfl))
  | ((with_reducible show GE _ _ (tOp (rIxT _) _ (tC (V.int 1))) _ _ _); refine' ge_ix1 ?k1 ?k2; (case k1 => walk_at "gv"); (case k2 => rfl))
  | ((with_reducible show GE _ _ (tOp (rIxT _) _ (tC (V.int 2))) _ _ _); refine' ge_ix2 ?k1 ?k2; (case k1 => walk_at "gv"); (case k2 => rfl))
  | ((with_reducible show GE _ _ (tTup _) _ _ _); refine' em_tup ?k1 ?k2; (case k1 => walk_at "gs"); (case k2 => exact Nat.le_of_ble_eq_true rfl))
  | ((with_reducible show GE _ _ (tMeth _ _ _ _ _ _ _) _ _ _); refine' ge_fit ?k1 ?k2 ?k3 ?k4; (case k1 => walk_at "gv"); (case k2 => assumption); (case k3 => walk_at "gs"); (case k4 => walk_at "cl"))
  | ((with_reducible show GE _ _ (tCall (spQ _ _) _ _ _) _ _ _); refine' ge_q ?k1 ?k2; (case k1 => walk_at "gs"); (case k2 => walk_at "cl"))
  | ((with_reducible show GE _ _ (tCall (spD _ _) _ _ _) _ _ _); refine' em_call ?k1 ?k2; (case k1 => walk_at "gs"); (case k2 => walk_at "cl")))
local macro_rules | `(tactic| walk_at "gs") => `(tactic| first
  | ((with_reducible show GEs _ _ tNil _ _ _ _); exact ems_nil)
  | ((with_reducible show GEs _ _ (tCons _ _) _ _ _ _); refine' ems_cons ?k1 ?k2; (case k1 => walk_at "gv"); (case k2 => walk_at "gs")))
local macro_rules | `(tactic| walk_at "gb") => `(tactic| first
  | (refine' bm_eb ?k1; (case k1 => walk_at "eb"))
  | ((with_reducible show GB _ _ (tTest (tOp (rEqD _) _ _)) _ _ _ _); first
    | (refine' gb_tyA ?k1 ?k2 ?k3 ?k4; (case k1 => walk_at "gv"); (case k2 => walk_at "gv"); (case k3 => first | rfl | decide +kernel | assumption); (case k4 => first | assumption | decide +kernel | omega))
    | (refine' gb_ty ?k1 ?k2 ?k3 ?k4 ?k5; (case k1 => walk_at "gv"); (case k2 => walk_at "gv"); (case k3 => first | assumption | rfl); (case k4 => first | assumption | decide +kernel | omega); (case k5 => first | assumption | decide +kernel | omega)))
  | ((with_reducible show GB _ _ (tTest (tOp rNe _ _)) _ _ _ _); refine' gb_neS ?k1 ?k2 ?k3; (case k1 => walk_at "gv"); (case k2 => walk_at "gv"); (case k3 => first | decide +kernel | assumption))
  | ((with_reducible show GB _ _ (tNot _) _ _ _ _); first | (refine' bm_not (b := true) ?k1 rfl; (case k1 => walk_at "gb")) | (refine' bm_not (b := false) ?k1 rfl; (case k1 => walk_at "gb")))
  | ((with_reducible show GB _ _ (tB _) _ _ _ _); refine' gb_val ?k1; (case k1 => walk_at "gv")))
local macro_rules | `(tactic| walk_at "gr") => `(tactic| first
  | ((with_reducible show GR _ _ (tRet _) _ _ _); refine' rr_ret ?k1; (case k1 => walk_at "gv"))
  | ((with_reducible show GR _ _ (tSeq (tIfS _ _ tNext) _) _ _ _); (first
    | ((with_reducible refine' rr_skip ?k1 ?k2); (case k1 => walk_at "gb"))
    | ((with_reducible refine' rr_take ?k1 ?k2); (case k1 => walk_at "gb"))); (walk_at "gr"))
  | ((with_reducible show GR _ _ (tSeq _ _) _ _ _); (with_reducible refine' rr_sn ?k1 ?k2); (case k1 => walk_at "gn"); (case k2 => walk_at "gr")))
local macro_rules | `(tactic| walk_at "gn") => `(tactic| first
  | ((with_reducible show GN _ _ tNext _ _ _ _); exact nm_next)
  | ((with_reducible show GN _ _ (tAsg _ (gName _)) _ _ _ _); refine' nm_asg ?k1; (case k1 => walk_at "gv"))
  | ((with_reducible show GN _ _ (tAsg _ _) _ _ _ _); refine' gn_up2 ?k1; (case k1 => walk_at "gv"))
  | ((with_reducible show GN _ _ (tIfS _ _ _) _ _ _ _); (first
    | ((with_reducible refine' nm_yes ?k1 ?k2); (case k1 => walk_at "gb"))
    | ((with_reducible refine' nm_no ?k1 ?k2); (case k1 => walk_at "gb"))); (walk_at "gn"))
  | ((with_reducible show GN _ _ (tSeq _ _) _ _ _ _); (with_reducible refine' nm_sn ?k1 ?k2); (case k1 => walk_at "gn"); (case k2 => walk_at "gn")))
theorem pe_mk0 {X : Cx} {k j : Nat} {C : Addr} {x : Str} {sp : Sp} {dvs : List V} {p pos : Pos} (c : C8.Mak X.prog X.w X.K X.mg X.base k x C sp dvs) (hr : Room j X.A) (hk : k + 1 ≤ j) (hg : Gl X x) (hdb : (x == ("__debug__" : Str)) = false := by decide) : PE X (.Call (.Name x p) [] [] pos) (tMake C sp dvs C8.E0 tNil) := by
  obtain ⟨f, fd, ps, ds, M, F, hm, b, d⟩ := c.ex
  exact pe_make0 M F (hr.mono hk) hg hm b d C8.pass0 hdb
section
variable {P : Program} {w : World} {K : PySem.W.Frag} {mg : Str → Option Value} {base : Heap}
theorem dep_pos : ∀ e : Sx, 1 ≤ dep e := fun e => by cases e <;> simp [dep]
theorem ok_partN (T : Tx w K mg) : ∀ n : Nat, C8.Met P w K mg base (3 * n + 20) (CK K) "part" (spC K (RPa K n)) []
  | 0 => by
    refine mk_Checker_part T fun fd F => ok_cr F sc_Checker_part (fun st l Po h => by obtain ⟨e, p, en, pt, m, rfl, _⟩ := h; rfl) fun cdv A outer s H E c st l Po hr h => ?_
    obtain ⟨e, p, en, pt, m, rfl, h1, _⟩ := h
    have := dep_pos e
    omega
  | n + 1 => ok_part T (k := 3 * n + 22) (by omega) (ok_elaborated T (k := 3 * n + 20) (by omega) (ok_partN T n))
def spChk (K : PySem.W.Frag) : Sp := fun vs H Q _ => ∃ p dx, vs = [.ref p] ∧ H p = some (.ins (CK K) dx []) ∧ Q .non (upd H p (.ins (CK K) dx (cf 0)))
theorem ok_Checker (T : Tx w K mg) : C8.Mak P w K mg base 1 "Checker" (CK K) (spChk K) [] := by
  refine mk_Checker_init T fun fd F => F.ok sc_Checker_init (fun vs H Q E h => ?_) fun cdv A outer s H vs Q E hr h => ?_
  · obtain ⟨p, dx, rfl, _⟩ := h
    rfl
  · obtain ⟨p, dx, rfl, hp, q⟩ := h
    refine ⟨_, PSs.nox (pss_one (ps_fld (pv 0) pe_int rfl)), ?_⟩
    refine ⟨_, rfl, p, _, dx, [], rfl, hp, cl_Checker T, na_Checker_count T, (by show 0 < 1000; decide), ?_⟩
    have e : putF "count" (.int 0) [] = cf 0 := by kernel_rfl
    rw [e]
    exact q
abbrev DE : Nat := 16
def spEl (K : PySem.W.Frag) : Sp := fun vs H Q _ => ∃ e pt m, Reps K H [Sx.d e] vs ∧ dep e ≤ DE ∧ el e [] 0 = some (pt, m) ∧ ∀ v H', Sta K H H' → Rep K H' (.t [Co.d pt.core, Ty.d pt.known]) v → Q v H'
theorem ok_elaborate (T : Tx w K mg) : C8.Cal P w K mg base 69 "elaborate" (spEl K) [] := by
  have c_Checker := ok_Checker (P := P) (base := base) T
  have c_part : C8.Met P w K mg base 68 (CK K) "part" (spC K (RPa K 16)) [] := ok_partN (P := P) (base := base) T 16
  refine mk_elaborate T fun fd F => F.ok sc_elaborate (fun vs H Q E h => ?_) fun cdv A outer s H vs Q E hr h => ?_
  · obtain ⟨e, pt, m, h1, _⟩ := h
    rw [h1.len] <;> rfl
  · obtain ⟨e, pt, m, h1, h2, h3, q⟩ := h
    obtain ⟨v0, r0, rfl, re, e1⟩ := h1
    have e1' : r0 = [] := e1
    subst e1'
    refine ⟨_, PSs.nox (pss_cons (ps_set (i := 1) sc_elaborate.nd rfl (Or.inl rfl) (C8.pe_mt c_part hr (by omega) (pe_mk0 c_Checker hr (by omega) rfl) (pa_cons (pv 0) (pa_cons (pe_lst pa_nil) pa_nil))))
  (pss_one (ps_ret (pe_tup (pa_cons (pe_fld (pv 1) rfl) (pa_cons (pe_fld (pv 1) rfl) pa_nil)))))), ?_⟩
    have h2' : dep e ≤ 16 := h2
    refine fun c dx nc ndx nec => ?_
    have ncd : upd H dx (.own c) c = none := by rw [upd_ne (fun z => nec z.symm)]; exact nc
    refine ⟨c, dx, rfl, upd_same, rfl, ?_⟩
    rw [upd_upd]
    have e01 : Ex H (upd (upd H dx (.own c)) c (.ins (CK K) dx (cf 0))) := (Ex.new ndx).trans (Ex.new ncd)
    have hc1 : upd (upd H dx (.own c)) c (.ins (CK K) dx (cf 0)) c = some (.ins (CK K) dx (cf 0)) := upd_same
    generalize upd (upd H dx (.own c)) c (.ins (CK K) dx (cf 0)) = H1 at e01 hc1
    refine ⟨c, dx, _, rfl, hc1, cf_part _, v0, rfl, (by show 0 ≤ sizeLine; decide), fun p np => ?_⟩
    have e12 : Ex H1 (upd H1 p (.lst [])) := Ex.new np
    refine ⟨c, (0, fun H2 => Sta K H H2 ∧ EnvAt K H2 p []), [Sx.d e, .r p], _, _, rfl, .cons (re.ex (e01.trans e12)) (.cons rfl .nil), ⟨⟨dx, e12 _ _ hc1⟩, ⟨Sta.ex (e01.trans e12), [], upd_same, .nil⟩, fun Ha Hb k st => ⟨k.1.trans st, k.2.sta st⟩⟩,
      ⟨e, p, [], pt, m, rfl, h2', by show 0 + 2 * dep e ≤ 900; omega, fun _ k => k.2, h3, rfl⟩, fun v H3 d s' k tm3 W3 r3 => ?_⟩
    obtain ⟨a, rfl, rfl⟩ := k
    have r3' : v = .ref a := r3
    subst r3'
    have L3 : LoOk K H3 [some v0, some (.ref a)] [some (Sx.d e), some (.r a)] := ⟨(re.ex (e01.trans e12)).mono tm3, rfl, trivial⟩
    have hp : ∀ Hx, CWd K c (m, fun H2 => (Sta K H H2 ∧ EnvAt K H2 p []) ∧ PartAt K H2 a pt) Hx → PartAt K Hx a pt := fun H k => k.2.1.2
    have g : GR K (CWd K c) (tRet (tTup (tCons (tFld K (tVar 1) "core") (tCons (tFld K (tVar 1) "known") tNil)))) [some (Sx.d e), some (.r a)] (m, fun H2 => (Sta K H H2 ∧ EnvAt K H2 p []) ∧ PartAt K H2 a pt) (Is (.t [Co.d pt.core, Ty.d pt.known]) (m, fun H2 => (Sta K H H2 ∧ EnvAt K H2 p []) ∧ PartAt K H2 a pt)) :=
      rr_ret (em_tup (ems_cons (ge_core T (em_ed (ed_var rfl)) hp) (ems_cons (ge_known T (em_ed (ed_var rfl)) hp) ems_nil)) (Nat.le_of_ble_eq_true rfl))
    refine g _ _ H3 L3 W3 fun v H4 d s' k tm4 W4 r4 => ?_
    obtain ⟨rfl, rfl⟩ := k
    exact q v H4 W4.2.1.1.1 r4
end
end Hn
end

/- HnW19 -/
section
set_option Elab.async false
set_option linter.all false
set_option maxRecDepth 100000
set_option maxHeartbeats 4000000
/-! Halfnoted: the law's own defs. -/
namespace Hn
open PySem PySem.Spec PyProof.Rows L2 Evl
local macro_rules | `(tactic| walk_at "ev") => `(tactic| first
  | ((with_reducible show ED _ (tVar _) _ _); exact ed_var rfl)
  | ((with_reducible show ED _ (tC _) _ _); first | exact ed_s | exact ed_i | exact ed_b | exact ed_n | exact ed_c (by assumption))
  | ((with_reducible show ED _ (tOp (rIxT _) _ (tC (V.int 0))) _ _); refine' ed_ix0 ?k1 ?k2; (case k1 => walk_at "ev"); (case k2 => rfl))
  | ((with_reducible show ED _ (tOp (rIxT _) _ (tC (V.int 1))) _ _); refine' ed_ix1 ?k1 ?k2; (case k1 => walk_at "ev"); (case k2 => rfl))
  | ((with_reducible show ED _ (tOp (rIxT _) _ (tC (V.int 2))) _ _); refine' ed_ix2 ?k1 ?k2; (case k1 => walk_at "ev"); (case k2 => rfl))
  | ((with_reducible show ED _ (tOp (rIxT _) _ (tC (V.int 3))) _ _); refine' ed_ix3 ?k1 ?k2; (case k1 => walk_at "ev"); (case k2 => rfl))
  | ((with_reducible show ED _ (tOp (rIxT _) _ (tC (V.int 4))) _ _); refine' ed_ix4 ?k1 ?k2; (case k1 => walk_at "ev"); (case k2 => rfl))
  | ((with_reducible show ED _ (tOp (rIxT _) _ (tC (V.int 5))) _ _); refine' ed_ix5 ?k1 ?k2; (case k1 => walk_at "ev"); (case k2 => rfl))
  | ((with_reducible show ED _ (tOp (rIxT _) _ (tVar _)) _ _); first
    | (refine' ed_ixE (j := 1) ?k1 ?k2 ?k3 ?k4; (case k1 => walk_at "ev"); (case k2 => walk_at "ev"); (case k3 => rfl); (case k4 => first | rfl | decide))
    | (refine' ed_ixE (j := 2) ?k1 ?k2 ?k3 ?k4; (case k1 => walk_at "ev"); (case k2 => walk_at "ev"); (case k3 => rfl); (case k4 => first | rfl | decide)))
  | ((with_reducible show ED _ (tCB _ (tCons _ tNil)) _ _); refine' ed_len ?k1 ?k2; (case k1 => walk_at "ev"); (case k2 => rfl))
  | ((with_reducible show ED _ (tTup _) _ _); refine' ed_tup ?k1 ?k2; (case k1 => walk_at "es"); (case k2 => exact Nat.le_of_ble_eq_true rfl))
  | ((with_reducible show ED _ (tCall _ _ _ _) _ _); refine' ed_call ?k1 ?k2; (case k1 => walk_at "es"); (case k2 => walk_at "cl"))
  | ((with_reducible show ED _ (tCallN _ _ _ _ _ _ _) _ _); refine' ed_callK ?k1 ?k2 ?k3 ?k4 ?k5; (case k1 => walk_at "es"); (case k2 => walk_at "es"); (case k3 => walk_at "cl"); (case k4 => rfl); (case k5 => rfl))
  | ((with_reducible show ED _ (tOp (rI0 _) _ _) _ _); first
    | (refine' ed_add ?k1 ?k2; (case k1 => walk_at "ev"); (case k2 => walk_at "ev"))
    | (refine' ed_sub ?k1 ?k2; (case k1 => walk_at "ev"); (case k2 => walk_at "ev"))
    | (refine' ed_lt ?k1 ?k2; (case k1 => walk_at "ev"); (case k2 => walk_at "ev"))))
local macro_rules | `(tactic| walk_at "es") => `(tactic| first
  | ((with_reducible show EDs _ tNil _ _); exact es_nil)
  | ((with_reducible show EDs _ (tCons _ _) _ _); refine' es_cons ?k1 ?k2; (case k1 => walk_at "ev"); (case k2 => walk_at "es")))
local macro_rules | `(tactic| walk_at "eb") => `(tactic| first
  | ((with_reducible show EB _ (tTest (tOp rEq _ _)) _ _); refine' eb_eqS ?k1 ?k2 ?k3; (case k1 => walk_at "ev"); (case k2 => walk_at "ev"); (case k3 => first | decide +kernel | assumption))
  | ((with_reducible show EB _ (tTest (tOp rNe _ _)) _ _); refine' eb_neS ?k1 ?k2 ?k3; (case k1 => walk_at "ev"); (case k2 => walk_at "ev"); (case k3 => first | decide +kernel | assumption))
  | ((with_reducible show EB _ (tTest (tOp (rEqD _) _ _)) _ _); first
    | (refine' eb_ck ?k1 ?k2 ?k3 ?k4; (case k1 => walk_at "ev"); (case k2 => walk_at "ev"); (case k3 => first | rfl | decide +kernel | assumption); (case k4 => first | assumption | decide +kernel | omega))
    | (refine' eb_tyA ?k1 ?k2 ?k3 ?k4; (case k1 => walk_at "ev"); (case k2 => walk_at "ev"); (case k3 => first | rfl | decide +kernel | assumption); (case k4 => first | assumption | decide +kernel | omega))
    | (refine' eb_ty ?k1 ?k2 ?k3 ?k4 ?k5; (case k1 => walk_at "ev"); (case k2 => walk_at "ev"); (case k3 => first | assumption | rfl); (case k4 => first | assumption | decide +kernel | omega); (case k5 => first | assumption | decide +kernel | omega)))
  | ((with_reducible show EB _ (tTest (tOp (rIn _ _) _ _)) _ _); refine' eb_in ?k1 ?k2 ?k3; (case k1 => walk_at "ev"); (case k2 => walk_at "ev"); (case k3 => decide +kernel))
  | ((with_reducible show EB _ (tOr _ _) _ _); first
    | (refine' eb_or (b := true) ?k1 ?k2 ?k3; (case k1 => walk_at "eb"); (case k2 => intro z; cases z); (case k3 => intro _; rfl))
    | (refine' eb_or (b := false) ?k1 ?k2 ?k3; (case k1 => walk_at "eb"); (case k2 => intro _; walk_at "eb"); (case k3 => intro z; cases z)))
  | ((with_reducible show EB _ (tAnd _ _) _ _); first
    | (refine' eb_and (b := false) ?k1 ?k2 ?k3; (case k1 => walk_at "eb"); (case k2 => intro z; cases z); (case k3 => intro _; rfl))
    | (refine' eb_and (b := true) ?k1 ?k2 ?k3; (case k1 => walk_at "eb"); (case k2 => intro _; walk_at "eb"); (case k3 => intro z; cases z)))
  | ((with_reducible show EB _ (tNot _) _ _); first | (refine' eb_not (b := true) ?k1 rfl; (case k1 => walk_at "eb")) | (refine' eb_not (b := false) ?k1 rfl; (case k1 => walk_at "eb")))
  | ((with_reducible show EB _ (tB _) _ _); refine' eb_val ?k1; (case k1 => walk_at "ev")))
local macro_rules | `(tactic| walk_at "rd") => `(tactic| first
  | ((with_reducible show RD _ (tRet _) _ _); refine' rd_ret ?k1; (case k1 => walk_at "ev"))
  | ((with_reducible show RD _ (tSeq (tIfS _ _ tNext) _) _ _); (first
    | ((with_reducible refine' rd_skip ?k1 ?k2); (case k1 => walk_at "eb"))
    | ((with_reducible refine' rd_take ?k1 ?k2); (case k1 => walk_at "eb"))); (walk_at "rd"))
  | ((with_reducible show RD _ (tIfS _ _ _) _ _); (first
    | ((with_reducible refine' rd_yes ?k1 ?k2); (case k1 => walk_at "eb"))
    | ((with_reducible refine' rd_no ?k1 ?k2); (case k1 => walk_at "eb"))); (walk_at "rd"))
  | ((with_reducible show RD _ (tSeq _ _) _ _); (with_reducible refine' rd_sn ?k1 ?k2); (case k1 => walk_at "nd"); (case k2 => walk_at "rd")))
local macro_rules | `(tactic| walk_at "nd") => `(tactic| first
  | ((with_reducible show ND _ tNext _ _); exact nd_next)
  | ((with_reducible show ND _ (tAsg _ _) _ _); refine' nd_asg ?k1; (case k1 => walk_at "ev"))
  | ((with_reducible show ND _ (tIfS _ _ _) _ _); (first
    | ((with_reducible refine' nd_yes ?k1 ?k2); (case k1 => walk_at "eb"))
    | ((with_reducible refine' nd_no ?k1 ?k2); (case k1 => walk_at "eb"))); (walk_at "nd"))
  | ((with_reducible show ND _ (tSeq _ _) _ _); (with_reducible refine' nd_sn ?k1 ?k2); (case k1 => walk_at "nd"); (case k2 => walk_at "nd")))
local macro_rules | `(tactic| walk_at "cl") => `(tactic| first | assumption | skip)
local macro_rules | `(tactic| walk_at "gv") => `(tactic| first
  | (refine' em_ed ?k1; (case k1 => walk_at "ev"))
  | ((with_reducible show GE _ _ (tFld _ _ _) _ _ _); first
    | (refine' ge_known ?kT ?k1 ?k2; (case kT => assumption); (case k1 => walk_at "gv"); (case k2 => assumption))
    | (refine' ge_core ?kT ?k1 ?k2; (case kT => assumption); (case k1 => walk_at "gv"); (case k2 => assumption))
    | (refine' ge_num ?kT ?k1 ?k2; (case kT => assumption); (case k1 => walk_at "gv"); (case k2 => assumption)))
  | ((with_reducible show GE _ _ (tOp (rIxL _) _ (tC (V.int 0))) _ _ _); refine' ge_ixL0 ?k1 ?k2 ?k3; (case k1 => walk_at "gv"); (case k2 => assumption); (case k3 => rfl))
  | ((with_reducible show GE _ _ (tOp (rIxL _) _ (tC (V.int 1))) _ _ _); refine' ge_ixL1 ?k1 ?k2 ?k3; (case k1 => walk_at "gv"); (case k2 => assumption); (case k3 => rfl))
  | ((with_reducible show GE _ _ (tOp (rIxL _) _ (tC (V.int 2))) _ _ _); refine' ge_ixL2 ?k1 ?k2 ?k3; (case k1 => walk_at "gv"); (case k2 => assumption); (case k3 => rfl))
  | ((with_reducible show GE _ _ (tOp (rIxT _) _ (tC (V.int 0))) _ _ _); refine' ge_ix0 ?k1 ?k2; (case k1 => walk_at "gv"); (case k2 => rfl))
  | ((with_reducible show GE _ _ (tOp (rIxT _) _ (tC (V.int 1))) _ _ _); refine' ge_ix1 ?k1 ?k2; (case k1 => walk_at "gv"); (case k2 => rfl))
  | ((with_reducible show GE _ _ (tOp (rIxT _) _ (tC (V.int 2))) _ _ _); refine' ge_ix2 ?k1 ?k2; (case k1 => walk_at "gv"); (case k2 => rfl))
  | ((with_reducible show GE _ _ (tTup _) _ _ _); refine' em_tup ?k1 ?k2; (case k1 => walk_at "gs"); (case k2 => exact Nat.le_of_ble_eq_true rfl))
  | ((with_reducible show GE _ _ (tMeth _ _ _ _ _ _ _) _ _ _); refine' ge_fit ?k1 ?k2 ?k3 ?k4; (case k1 => walk_at "gv"); (case k2 => assumption); (case k3 => walk_at "gs"); (case k4 => walk_at "cl"))
  | ((with_reducible show GE _ _ (tCall (spQ _ _) _ _ _) _ _ _); refine' ge_q ?k1 ?k2; (case k1 => walk_at "gs"); (case k2 => walk_at "cl"))
  | ((with_reducible show GE _ _ (tCall (spD _ _) _ _ _) _ _ _); refine' em_call ?k1 ?k2; (case k1 => walk_at "gs"); (case k2 => walk_at "cl")))
local macro_rules | `(tactic| walk_at "gs") => `(tactic| first
  | ((with_reducible show GEs _ _ tNil _ _ _ _); exact ems_nil)
  | ((with_reducible show GEs _ _ (tCons _ _) _ _ _ _); refine' ems_cons ?k1 ?k2; (case k1 => walk_at "gv"); (case k2 => walk_at "gs")))
local macro_rules | `(tactic| walk_at "gb") => `(tactic| first
  | (refine' bm_eb ?k1; (case k1 => walk_at "eb"))
  | ((with_reducible show GB _ _ (tTest (tOp (rEqD _) _ _)) _ _ _ _); first
    | (refine' gb_tyA ?k1 ?k2 ?k3 ?k4; (case k1 => walk_at "gv"); (case k2 => walk_at "gv"); (case k3 => first | rfl | decide +kernel | assumption); (case k4 => first | assumption | decide +kernel | omega))
    | (refine' gb_ty ?k1 ?k2 ?k3 ?k4 ?k5; (case k1 => walk_at "gv"); (case k2 => walk_at "gv"); (case k3 => first | assumption | rfl); (case k4 => first | assumption | decide +kernel | omega); (case k5 => first | assumption | decide +kernel | omega)))
  | ((with_reducible show GB _ _ (tTest (tOp rNe _ _)) _ _ _ _); refine' gb_neS ?k1 ?k2 ?k3; (case k1 => walk_at "gv"); (case k2 => walk_at "gv"); (case k3 => first | decide +kernel | assumption))
  | ((with_reducible show GB _ _ (tNot _) _ _ _ _); first | (refine' bm_not (b := true) ?k1 rfl; (case k1 => walk_at "gb")) | (refine' bm_not (b := false) ?k1 rfl; (case k1 => walk_at "gb")))
  | ((with_reducible show GB _ _ (tB _) _ _ _ _); refine' gb_val ?k1; (case k1 => walk_at "gv")))
local macro_rules | `(tactic| walk_at "gr") => `(tactic| first
  | ((with_reducible show GR _ _ (tRet _) _ _ _); refine' rr_ret ?k1; (case k1 => walk_at "gv"))
  | ((with_reducible show GR _ _ (tSeq (tIfS _ _ tNext) _) _ _ _); (first
    | ((with_reducible refine' rr_skip ?k1 ?k2); (case k1 => walk_at "gb"))
    | ((with_reducible refine' rr_take ?k1 ?k2); (case k1 => walk_at "gb"))); (walk_at "gr"))
  | ((with_reducible show GR _ _ (tSeq _ _) _ _ _); (with_reducible refine' rr_sn ?k1 ?k2); (case k1 => walk_at "gn"); (case k2 => walk_at "gr")))
local macro_rules | `(tactic| walk_at "gn") => `(tactic| first
  | ((with_reducible show GN _ _ tNext _ _ _ _); exact nm_next)
  | ((with_reducible show GN _ _ (tAsg _ (gName _)) _ _ _ _); refine' nm_asg ?k1; (case k1 => walk_at "gv"))
  | ((with_reducible show GN _ _ (tAsg _ _) _ _ _ _); refine' gn_up2 ?k1; (case k1 => walk_at "gv"))
  | ((with_reducible show GN _ _ (tIfS _ _ _) _ _ _ _); (first
    | ((with_reducible refine' nm_yes ?k1 ?k2); (case k1 => walk_at "gb"))
    | ((with_reducible refine' nm_no ?k1 ?k2); (case k1 => walk_at "gb"))); (walk_at "gn"))
  | ((with_reducible show GN _ _ (tSeq _ _) _ _ _ _); (with_reducible refine' nm_sn ?k1 ?k2); (case k1 => walk_at "gn"); (case k2 => walk_at "gn")))
/-- the law's state at a, its cells at b -/
structure LA (H0 : Hp) (a b : Addr) (k : Int) (ns : List Int) (H : Hp) : Prop where
  st : H a = some (.lst [.int k, .ref b])
  ce : H b = some (.lst (ns.map V.int))
  ne : a ≠ b
  pos : 0 < ns.length
  lim : ns.length ≤ 900
  ex : Ex H0 H
  na : H0 a = none
  nb : H0 b = none
def LW (H0 : Hp) (a : Addr) : Unit → Hp → Prop := fun _ H => ∃ b k ns, LA H0 a b k ns H
instance {H0 : Hp} {a : Addr} : Gr (LW H0 a) := ⟨fun e ⟨b, k, ns, A⟩ => ⟨b, k, ns, e _ _ A.st, e _ _ A.ce, A.ne, A.pos, A.lim, A.ex.trans e, A.na, A.nb⟩⟩
/-- a law def's promise: the state first -/
def spW (K : PySem.W.Frag) (R : List D → (D → Prop) → Prop) : Sp := fun vs H Q _ => ∃ H0 a l P vs', vs = .ref a :: vs' ∧ Reps K H l vs' ∧ LW H0 a () H ∧ R l P ∧ ∀ v H' d, P d → Tm K H H' → LW H0 a () H' → Rep K H' d v → Q v H'
theorem mod_pl {i : Int} {n : Nat} (h : 0 < n) : (i % (n : Int)).toNat < n ∧ (((i % (n : Int)).toNat : Nat) : Int) = i % (n : Int) := by
  have h1 := Int.emod_nonneg i (b := (n : Int)) (by omega)
  have h2 := Int.emod_lt_of_pos i (b := (n : Int)) (by omega)
  omega
section
variable {P : Program} {w : World} {K : PySem.W.Frag} {mg : Str → Option Value} {base : Heap}
theorem la_k {H0 : Hp} {a b : Addr} {k : Int} {ns : List Int} {H : Hp} (A : LA H0 a b k ns H) (k' : Int) : LA H0 a b k' ns (upd H a (.lst [.int k', .ref b])) :=
  ⟨upd_same, by rw [upd_ne A.ne.symm]; exact A.ce, A.ne, A.pos, A.lim, ex_upd A.ex A.na, A.na, A.nb⟩
theorem la_c {H0 : Hp} {a b : Addr} {k : Int} {ns : List Int} {H : Hp} (A : LA H0 a b k ns H) (j : Nat) (x : Int) : LA H0 a b k (ns.set j x) (upd H b (.lst ((ns.set j x).map V.int))) :=
  ⟨by rw [upd_ne A.ne]; exact A.st, upd_same, A.ne, by rw [List.length_set]; exact A.pos, by rw [List.length_set]; exact A.lim, ex_upd A.ex A.nb, A.na, A.nb⟩
def RTk : List D → (D → Prop) → Prop := fun l P => ∃ m : Int, l = [.i m] ∧ 0 < m ∧ m < 1000 ∧ P = fun d => ∃ r : Int, 0 ≤ r ∧ r < m ∧ d = .i r
theorem ok_take (T : Tx w K mg) : C8.Cal P w K mg base 1 "_law_take" (spW K RTk) [] := by
  refine mk_law_take T fun fd F => F.ok sc_law_take (fun vs H Q E h => ?_) fun cdv A outer s H vs Q E hr h => ?_
  · obtain ⟨H0, a, l, P, vs', rfl, h1, _, ⟨m, rfl, _⟩, _⟩ := h
    rw [List.length_cons, h1.len] <;> rfl
  · obtain ⟨H0, a, l, P, vs', rfl, h1, ⟨b, k, ns, A⟩, ⟨m, rfl, m0, m1, rfl⟩, q⟩ := h
    obtain ⟨v0, r0, rfl, e0, e1⟩ := h1
    have e0' : v0 = .int m := e0
    have e1' : r0 = [] := e1
    subst e0' e1'
    refine ⟨_, PSs.nox (pss_cons (ps_set (i := 2) sc_law_take.nd rfl (Or.inl rfl) (pe_ix ix_list (pv 0) pe_int (fun _ _ => rfl)))
  (pss_cons (ps_set (i := 3) sc_law_take.nd rfl (Or.inl rfl) (pe_op op_mod (pe_ix ix_list (pv 0) pe_int (fun _ _ => rfl)) (pe_callB call_len_seq (by rfl) (fr_len T) (by decide +kernel) (pa_cons (pv 2) pa_nil))))
  (pss_cons (ps_set (i := 4) sc_law_take.nd rfl (Or.inl rfl) (pe_ix ix_list (pv 2) (pv 3) (fun _ _ => rfl)))
  (pss_cons (ps_if (pt_cmpR op_ge (pv 4) pe_int (nomark _)) (pss_cons (ps_asg (pe_op op_fdiv (pv 4) (pv 1)) (pg_sub (pv 2) (pv 3) set_list))
  (pss_one (ps_ret (pe_op op_mod (pv 4) (pv 1))))) pss_nil)
  (pss_cons (ps_asg (pe_op op_add (pe_ix ix_list (pv 0) pe_int (fun _ _ => rfl)) pe_int) (pg_sub (pv 0) pe_int set_list))
  (pss_cons (ps_set (i := 5) sc_law_take.nd rfl (Or.inl rfl) (pe_op op_mod (pe_callTy call_int1 (by rfl) (fr_int T) (by decide +kernel) (pa_cons (pe_op op_add (pe_op op_mul (pv 4) pe_int) (pe_op op_mul (pe_ix ix_list (pv 0) pe_int (fun _ _ => rfl)) pe_int)) pa_nil)) pe_int))
  (pss_cons (ps_set (i := 5) sc_law_take.nd rfl (Or.inl rfl) (pe_op op_mod (pe_callTy call_int1 (by rfl) (fr_int T) (by decide +kernel) (pa_cons (pe_op op_add (pe_op op_mul (pv 5) pe_int) (pe_op op_mul (pe_ix ix_list (pv 0) pe_int (fun _ _ => rfl)) pe_int)) pa_nil)) pe_int))
  (pss_one (ps_ret (pe_op op_mod (pe_op op_fdiv (pv 5) pe_int) (pv 1))))))))))), ?_⟩
    have mp := mod_pl (i := k) A.pos
    have hx : (ns.map V.int)[(k % (ns.length : Int)).toNat]? = some (.int ns[(k % (ns.length : Int)).toNat]) := by
      rw [List.getElem?_map, List.getElem?_eq_getElem mp.1] <;> rfl
    have hat : atI (ns.map V.int) (k % (ns.length : Int)) = some (.int ns[(k % (ns.length : Int)).toNat]) := by
      have z := atI_nat hx
      rw [mp.2] at z
      exact z
    generalize ns[(k % (ns.length : Int)).toNat] = x at hat hx
    -- cells, at, cell
    refine ⟨_, rfl, a, [.int k, .ref b], 1, .ref b, rfl, rfl, SqL.of A.st, rfl, ?_⟩
    refine ⟨_, rfl, a, [.int k, .ref b], 0, .int k, rfl, rfl, SqL.of A.st, rfl, _, rfl, b, ns.map V.int, rfl, .inl (SqL.of A.ce), k, _, rfl, rfl, by rw [List.length_map]; have := A.pos; omega, ?_⟩
    rw [List.length_map]
    refine ⟨_, rfl, _, rfl, b, ns.map V.int, _, .int x, rfl, rfl, SqL.of A.ce, hat, ?_⟩
    -- a big cell
    refine ⟨_, rfl, x, 1000000000000000000, rfl, rfl, _, rfl, ?_⟩
    by_cases hb : (1000000000000000000 : Int) ≤ x
    · rw [decide_eq_true hb]
      refine iteT ?_
      refine ⟨_, rfl, _, rfl, x, m, rfl, rfl, ⟨m0, by omega⟩, ?_⟩
      refine ⟨_, rfl, _, rfl, b, ns.map V.int, _, (k % (ns.length : Int)).toNat, rfl, rfl, A.ce, ?_, ?_⟩
      · rw [List.length_map]
        unfold ixN
        have h0 : 0 ≤ k % (ns.length : Int) := by rw [← mp.2]; omega
        have h1 : k % (ns.length : Int) < ns.length := by rw [← mp.2]; omega
        rw [if_pos h0, if_pos h1]
      · have e : (ns.map V.int).set (k % (ns.length : Int)).toNat (.int (x / m)) = (ns.set (k % (ns.length : Int)).toNat (x / m)).map V.int := by rw [List.map_set]
        rw [e]
        refine ⟨_, rfl, _, rfl, x, m, rfl, rfl, m0, ?_⟩
        exact q _ _ _ ⟨x % m, Int.emod_nonneg _ (by omega), Int.emod_lt_of_pos _ m0, rfl⟩ (tm_lst A.ce) ⟨b, k, _, la_c A _ _⟩ rfl
    · rw [decide_eq_false hb]
      refine iteF ?_
      -- state[0] += 1
      refine ⟨_, rfl, a, [.int k, .ref b], 0, .int k, rfl, rfl, SqL.of A.st, rfl, k, 1, rfl, rfl, ?_⟩
      refine ⟨_, rfl, a, [.int k, .ref b], 0, 0, rfl, rfl, A.st, rfl, ?_⟩
      have A2 := la_k A (k + 1)
      have tm : Tm K H (upd H a (.lst [.int (k + 1), .ref b])) := tm_lst A.st
      show tSeq _ _ _ _ (upd H a (.lst [.int (k + 1), .ref b]))
      generalize upd H a (.lst [.int (k + 1), .ref b]) = H2 at A2 tm
      have c64 : ∀ i j : Int, 0 ≤ j → j < 1000000 → CMul i j := fun i j h0 h1 => .inr ⟨by omega, by omega⟩
      refine ⟨_, rfl, x, 48271, rfl, rfl, c64 _ _ (by decide) (by decide), _, rfl, a, [.int (k + 1), .ref b], 0, .int (k + 1), rfl, rfl, SqL.of A2.st, rfl, k + 1, 69621, rfl, rfl, c64 _ _ (by decide) (by decide), _, _, rfl, rfl, .inl ⟨_, rfl, _, 2147483647, rfl, rfl, (show (0 : Int) < 2147483647 by decide), ?_⟩⟩
      refine ⟨_, rfl, _, 16807, rfl, rfl, c64 _ _ (by decide) (by decide), _, rfl, a, [.int (k + 1), .ref b], 0, .int (k + 1), rfl, rfl, SqL.of A2.st, rfl, k + 1, 7919, rfl, rfl, c64 _ _ (by decide) (by decide), _, _, rfl, rfl, .inl ⟨_, rfl, _, 1000000007, rfl, rfl, (show (0 : Int) < 1000000007 by decide), ?_⟩⟩
      refine ⟨_, rfl, _, 7, rfl, rfl, ⟨by decide, by decide⟩, _, rfl, _, m, rfl, rfl, m0, ?_⟩
      exact q _ _ _ ⟨_, Int.emod_nonneg _ (by omega), Int.emod_lt_of_pos _ m0, rfl⟩ tm ⟨b, k + 1, _, A2⟩ rfl
end
end Hn
end

/- HnW20 -/
section
set_option Elab.async false
set_option linter.all false
set_option maxRecDepth 100000
set_option maxHeartbeats 4000000
namespace Hn
open PySem PySem.Spec PyProof.Rows L2 Evl
local macro_rules | `(tactic| walk_at "ev") => `(tactic| first
  | ((with_reducible show ED _ (tVar _) _ _); exact ed_var rfl)
  | ((with_reducible show ED _ (tC _) _ _); first | exact ed_s | exact ed_i | exact ed_b | exact ed_n | exact ed_c (by assumption))
  | ((with_reducible show ED _ (tOp (rIxT _) _ (tC (V.int 0))) _ _); refine' ed_ix0 ?k1 ?k2; (case k1 => walk_at "ev"); (case k2 => rfl))
  | ((with_reducible show ED _ (tOp (rIxT _) _ (tC (V.int 1))) _ _); refine' ed_ix1 ?k1 ?k2; (case k1 => walk_at "ev"); (case k2 => rfl))
  | ((with_reducible show ED _ (tOp (rIxT _) _ (tC (V.int 2))) _ _); refine' ed_ix2 ?k1 ?k2; (case k1 => walk_at "ev"); (case k2 => rfl))
  | ((with_reducible show ED _ (tOp (rIxT _) _ (tC (V.int 3))) _ _); refine' ed_ix3 ?k1 ?k2; (case k1 => walk_at "ev"); (case k2 => rfl))
  | ((with_reducible show ED _ (tOp (rIxT _) _ (tC (V.int 4))) _ _); refine' ed_ix4 ?k1 ?k2; (case k1 => walk_at "ev"); (case k2 => rfl))
  | ((with_reducible show ED _ (tOp (rIxT _) _ (tC (V.int 5))) _ _); refine' ed_ix5 ?k1 ?k2; (case k1 => walk_at "ev"); (case k2 => rfl))
  | ((with_reducible show ED _ (tOp (rIxT _) _ (tVar _)) _ _); first
    | (refine' ed_ixE (j := 1) ?k1 ?k2 ?k3 ?k4; (case k1 => walk_at "ev"); (case k2 => walk_at "ev"); (case k3 => rfl); (case k4 => first | rfl | decide))
    | (refine' ed_ixE (j := 2) ?k1 ?k2 ?k3 ?k4; (case k1 => walk_at "ev"); (case k2 => walk_at "ev"); (case k3 => rfl); (case k4 => first | rfl | decide)))
  | ((with_reducible show ED _ (tCB _ (tCons _ tNil)) _ _); refine' ed_len ?k1 ?k2; (case k1 => walk_at "ev"); (case k2 => rfl))
  | ((with_reducible show ED _ (tTup _) _ _); refine' ed_tup ?k1 ?k2; (case k1 => walk_at "es"); (case k2 => exact Nat.le_of_ble_eq_true rfl))
  | ((with_reducible show ED _ (tCall _ _ _ _) _ _); refine' ed_call ?k1 ?k2; (case k1 => walk_at "es"); (case k2 => walk_at "cl"))
  | ((with_reducible show ED _ (tCallN _ _ _ _ _ _ _) _ _); refine' ed_callK ?k1 ?k2 ?k3 ?k4 ?k5; (case k1 => walk_at "es"); (case k2 => walk_at "es"); (case k3 => walk_at "cl"); (case k4 => rfl); (case k5 => rfl))
  | ((with_reducible show ED _ (tOp (rI0 _) _ _) _ _); first
    | (refine' ed_add ?k1 ?k2; (case k1 => walk_at "ev"); (case k2 => walk_at "ev"))
    | (refine' ed_sub ?k1 ?k2; (case k1 => walk_at "ev"); (case k2 => walk_at "ev"))
    | (refine' ed_lt ?k1 ?k2; (case k1 => walk_at "ev"); (case k2 => walk_at "ev"))))
local macro_rules | `(tactic| walk_at "es") => `(tactic| first
  | ((with_reducible show EDs _ tNil _ _); exact es_nil)
  | ((with_reducible show EDs _ (tCons _ _) _ _); refine' es_cons ?k1 ?k2; (case k1 => walk_at "ev"); (case k2 => walk_at "es")))
local macro_rules | `(tactic| walk_at "eb") => `(tactic| first
  | ((with_reducible show EB _ (tTest (tOp rEq _ _)) _ _); refine' eb_eqS ?k1 ?k2 ?k3; (case k1 => walk_at "ev"); (case k2 => walk_at "ev"); (case k3 => first | decide +kernel | assumption))
  | ((with_reducible show EB _ (tTest (tOp rNe _ _)) _ _); refine' eb_neS ?k1 ?k2 ?k3; (case k1 => walk_at "ev"); (case k2 => walk_at "ev"); (case k3 => first | decide +kernel | assumption))
  | ((with_reducible show EB _ (tTest (tOp (rEqD _) _ _)) _ _); first
    | (refine' eb_ck ?k1 ?k2 ?k3 ?k4; (case k1 => walk_at "ev"); (case k2 => walk_at "ev"); (case k3 => first | rfl | decide +kernel | assumption); (case k4 => first | assumption | decide +kernel | omega))
    | (refine' eb_tyA ?k1 ?k2 ?k3 ?k4; (case k1 => walk_at "ev"); (case k2 => walk_at "ev"); (case k3 => first | rfl | decide +kernel | assumption); (case k4 => first | assumption | decide +kernel | omega))
    | (refine' eb_ty ?k1 ?k2 ?k3 ?k4 ?k5; (case k1 => walk_at "ev"); (case k2 => walk_at "ev"); (case k3 => first | assumption | rfl); (case k4 => first | assumption | decide +kernel | omega); (case k5 => first | assumption | decide +kernel | omega)))
  | ((with_reducible show EB _ (tTest (tOp (rIn _ _) _ _)) _ _); refine' eb_in ?k1 ?k2 ?k3; (case k1 => walk_at "ev"); (case k2 => walk_at "ev"); (case k3 => decide +kernel))
  | ((with_reducible show EB _ (tOr _ _) _ _); first
    | (refine' eb_or (b := true) ?k1 ?k2 ?k3; (case k1 => walk_at "eb"); (case k2 => intro z; cases z); (case k3 => intro _; rfl))
    | (refine' eb_or (b := false) ?k1 ?k2 ?k3; (case k1 => walk_at "eb"); (case k2 => intro _; walk_at "eb"); (case k3 => intro z; cases z)))
  | ((with_reducible show EB _ (tAnd _ _) _ _); first
    | (refine' eb_and (b := false) ?k1 ?k2 ?k3; (case k1 => walk_at "eb"); (case k2 => intro z; cases z); (case k3 => intro _; rfl))
    | (refine' eb_and (b := true) ?k1 ?k2 ?k3; (case k1 => walk_at "eb"); (case k2 => intro _; walk_at "eb"); (case k3 => intro z; cases z)))
  | ((with_reducible show EB _ (tNot _) _ _); first | (refine' eb_not (b := true) ?k1 rfl; (case k1 => walk_at "eb")) | (refine' eb_not (b := false) ?k1 rfl; (case k1 => walk_at "eb")))
  | ((with_reducible show EB _ (tB _) _ _); refine' eb_val ?k1; (case k1 => walk_at "ev")))
local macro_rules | `(tactic| walk_at "rd") => `(tactic| first
  | ((with_reducible show RD _ (tRet _) _ _); refine' rd_ret ?k1; (case k1 => walk_at "ev"))
  | ((with_reducible show RD _ (tSeq (tIfS _ _ tNext) _) _ _); (first
    | ((with_reducible refine' rd_skip ?k1 ?k2); (case k1 => walk_at "eb"))
    | ((with_reducible refine' rd_take ?k1 ?k2); (case k1 => walk_at "eb"))); (walk_at "rd"))
  | ((with_reducible show RD _ (tIfS _ _ _) _ _); (first
    | ((with_reducible refine' rd_yes ?k1 ?k2); (case k1 => walk_at "eb"))
    | ((with_reducible refine' rd_no ?k1 ?k2); (case k1 => walk_at "eb"))); (walk_at "rd"))
  | ((with_reducible show RD _ (tSeq _ _) _ _); (with_reducible refine' rd_sn ?k1 ?k2); (case k1 => walk_at "nd"); (case k2 => walk_at "rd")))
local macro_rules | `(tactic| walk_at "nd") => `(tactic| first
  | ((with_reducible show ND _ tNext _ _); exact nd_next)
  | ((with_reducible show ND _ (tAsg _ _) _ _); refine' nd_asg ?k1; (case k1 => walk_at "ev"))
  | ((with_reducible show ND _ (tIfS _ _ _) _ _); (first
    | ((with_reducible refine' nd_yes ?k1 ?k2); (case k1 => walk_at "eb"))
    | ((with_reducible refine' nd_no ?k1 ?k2); (case k1 => walk_at "eb"))); (walk_at "nd"))
  | ((with_reducible show ND _ (tSeq _ _) _ _); (with_reducible refine' nd_sn ?k1 ?k2); (case k1 => walk_at "nd"); (case k2 => walk_at "nd")))
local macro_rules | `(tactic| walk_at "cl") => `(tactic| first | assumption | skip)
local macro_rules | `(tactic| walk_at "gv") => `(tactic| first
  | (refine' em_ed ?k1; (case k1 => walk_at "ev"))
  | ((with_reducible show GE _ _ (tFld _ _ _) _ _ _); first
    | (refine' ge_known ?kT ?k1 ?k2; (case kT => assumption); (case k1 => walk_at "gv"); (case k2 => assumption))
    | (refine' ge_core ?kT ?k1 ?k2; (case kT => assumption); (case k1 => walk_at "gv"); (case k2 => assumption))
    | (refine' ge_num ?kT ?k1 ?k2; (case kT => assumption); (case k1 => walk_at "gv"); (case k2 => assumption)))
  | ((with_reducible show GE _ _ (tOp (rIxL _) _ (tC (V.int 0))) _ _ _); refine' ge_ixL0 ?k1 ?k2 ?k3; (case k1 => walk_at "gv"); (case k2 => assumption); (case k3 => rfl))
  | ((with_reducible show GE _ _ (tOp (rIxL _) _ (tC (V.int 1))) _ _ _); refine' ge_ixL1 ?k1 ?k2 ?k3; (case k1 => walk_at "gv"); (case k2 => assumption); (case k3 => rfl))
  | ((with_reducible show GE _ _ (tOp (rIxL _) _ (tC (V.int 2))) _ _ _); refine' ge_ixL2 ?k1 ?k2 ?k3; (case k1 => walk_at "gv"); (case k2 => assumption); (case k3 => rfl))
  | ((with_reducible show GE _ _ (tOp (rIxT _) _ (tC (V.int 0))) _ _ _); refine' ge_ix0 ?k1 ?k2; (case k1 => walk_at "gv"); (case k2 => rfl))
  | ((with_reducible show GE _ _ (tOp (rIxT _) _ (tC (V.int 1))) _ _ _); refine' ge_ix1 ?k1 ?k2; (case k1 => walk_at "gv"); (case k2 => rfl))
  | ((with_reducible show GE _ _ (tOp (rIxT _) _ (tC (V.int 2))) _ _ _); refine' ge_ix2 ?k1 ?k2; (case k1 => walk_at "gv"); (case k2 => rfl))
  | ((with_reducible show GE _ _ (tTup _) _ _ _); refine' em_tup ?k1 ?k2; (case k1 => walk_at "gs"); (case k2 => exact Nat.le_of_ble_eq_true rfl))
  | ((with_reducible show GE _ _ (tMeth _ _ _ _ _ _ _) _ _ _); refine' ge_fit ?k1 ?k2 ?k3 ?k4; (case k1 => walk_at "gv"); (case k2 => assumption); (case k3 => walk_at "gs"); (case k4 => walk_at "cl"))
  | ((with_reducible show GE _ _ (tCall (spQ _ _) _ _ _) _ _ _); refine' ge_q ?k1 ?k2; (case k1 => walk_at "gs"); (case k2 => walk_at "cl"))
  | ((with_reducible show GE _ _ (tCall (spD _ _) _ _ _) _ _ _); refine' em_call ?k1 ?k2; (case k1 => walk_at "gs"); (case k2 => walk_at "cl")))
local macro_rules | `(tactic| walk_at "gs") => `(tactic| first
  | ((with_reducible show GEs _ _ tNil _ _ _ _); exact ems_nil)
  | ((with_reducible show GEs _ _ (tCons _ _) _ _ _ _); refine' ems_cons ?k1 ?k2; (case k1 => walk_at "gv"); (case k2 => walk_at "gs")))
local macro_rules | `(tactic| walk_at "gb") => `(tactic| first
  | (refine' bm_eb ?k1; (case k1 => walk_at "eb"))
  | ((with_reducible show GB _ _ (tTest (tOp (rEqD _) _ _)) _ _ _ _); first
    | (refine' gb_tyA ?k1 ?k2 ?k3 ?k4; (case k1 => walk_at "gv"); (case k2 => walk_at "gv"); (case k3 => first | rfl | decide +kernel | assumption); (case k4 => first | assumption | decide +kernel | omega))
    | (refine' gb_ty ?k1 ?k2 ?k3 ?k4 ?k5; (case k1 => walk_at "gv"); (case k2 => walk_at "gv"); (case k3 => first | assumption | rfl); (case k4 => first | assumption | decide +kernel | omega); (case k5 => first | assumption | decide +kernel | omega)))
  | ((with_reducible show GB _ _ (tTest (tOp rNe _ _)) _ _ _ _); refine' gb_neS ?k1 ?k2 ?k3; (case k1 => walk_at "gv"); (case k2 => walk_at "gv"); (case k3 => first | decide +kernel | assumption))
  | ((with_reducible show GB _ _ (tNot _) _ _ _ _); first | (refine' bm_not (b := true) ?k1 rfl; (case k1 => walk_at "gb")) | (refine' bm_not (b := false) ?k1 rfl; (case k1 => walk_at "gb")))
  | ((with_reducible show GB _ _ (tB _) _ _ _ _); refine' gb_val ?k1; (case k1 => walk_at "gv")))
local macro_rules | `(tactic| walk_at "gr") => `(tactic| first
  | ((with_reducible show GR _ _ (tRet _) _ _ _); refine' rr_ret ?k1; (case k1 => walk_at "gv"))
  | ((with_reducible show GR _ _ (tSeq (tIfS _ _ tNext) _) _ _ _); (first
    | ((with_reducible refine' rr_skip ?k1 ?k2); (case k1 => walk_at "gb"))
    | ((with_reducible refine' rr_take ?k1 ?k2); (case k1 => walk_at "gb"))); (walk_at "gr"))
  | ((with_reducible show GR _ _ (tSeq _ _) _ _ _); (with_reducible refine' rr_sn ?k1 ?k2); (case k1 => walk_at "gn"); (case k2 => walk_at "gr")))
local macro_rules | `(tactic| walk_at "gn") => `(tactic| first
  | ((with_reducible show GN _ _ tNext _ _ _ _); exact nm_next)
  | ((with_reducible show GN _ _ (tAsg _ (gName _)) _ _ _ _); refine' nm_asg ?k1; (case k1 => walk_at "gv"))
  | ((with_reducible show GN _ _ (tAsg _ _) _ _ _ _); refine' gn_up2 ?k1; (case k1 => walk_at "gv"))
  | ((with_reducible show GN _ _ (tIfS _ _ _) _ _ _ _); (first
    | ((with_reducible refine' nm_yes ?k1 ?k2); (case k1 => walk_at "gb"))
    | ((with_reducible refine' nm_no ?k1 ?k2); (case k1 => walk_at "gb"))); (walk_at "gn"))
  | ((with_reducible show GN _ _ (tSeq _ _) _ _ _ _); (with_reducible refine' nm_sn ?k1 ?k2); (case k1 => walk_at "gn"); (case k2 => walk_at "gn")))
section
variable {K : PySem.W.Frag} {te ta tb : TE} {ds : Lo} {b : Bool} {l : List D} {d : D} {as : TA} {j : Nat}
theorem eb_test (h : ED K te ds (.b b)) : EB K (tTest te) ds b := fun σ H L Q q => h σ H L _ fun v H' e r => by
  have r' : v = .bl b := r
  subst r'
  exact ⟨_, rfl, q H' e⟩
theorem ed_gt {m n : Int} (h1 : ED K ta ds (.i m)) (h2 : ED K tb ds (.i n)) : ED K (tOp (rI0 fun i j => .bl (decide (j < i))) ta tb) ds (.b (decide (n < m))) := fun σ H L Q q =>
  h1 σ H L _ fun v H' e r => h2 σ H' (L.mono (Tm.ex e)) _ fun v2 H2 e2 r2 => by
    have r' : v = .int m := r
    have r2' : v2 = .int n := r2
    subst r' r2'
    exact ⟨m, n, rfl, rfl, q _ H2 (e.trans e2) rfl⟩
theorem ed_pick {n : Int} (h1 : EDs K as ds l) (hl : l.length ≤ 900) (h2 : ED K ta ds (.i n)) (hi : l[j]? = some d) (hn : n = (j : Int)) : ED K (tOp (rIxL K) (tLst as) ta) ds d := fun σ H L Q q =>
  h1 σ H L _ fun vs H1 e1 r1 => ⟨by rw [r1.len]; exact Nat.le_of_lt (small1000 (by omega)), fun p np => h2 σ _ (L.mono (Tm.ex (e1.trans (Ex.new np)))) _ fun v H2 e2 r2 => by
    have r2' : v = .int n := r2
    subst r2' hn
    obtain ⟨y, hy, ry⟩ := r1.get hi
    have e3 : Ex H1 H2 := (Ex.new np).trans e2
    exact ⟨p, vs, j, y, rfl, rfl, SqL.of (e2 _ _ upd_same), atI_nat hy, q y H2 (e1.trans e3) (ry.ex e3)⟩⟩
end
/-! ### the law's world: what comes back may be one of many -/
section
variable (K : PySem.W.Frag) (H0 : Hp) (a : Addr)
abbrev LE (te : TE) (ds : Lo) (P : D → Prop) : Prop := GE K (LW H0 a) te ds () (fun d _ => P d)
def LEs (ta : TA) (ds : Lo) (P : List D → Prop) : Prop := ∀ σ H, LoOk K H σ ds → LW H0 a () H → ∀ Q : List V → Hp → Prop, (∀ vs H' l, P l → Tm K H H' → LW H0 a () H' → Reps K H' l vs → Q vs H') → ta σ H Q
/-- a test that may end either way -/
def LT (tt : TT) (ds : Lo) : Prop := ∀ σ H, LoOk K H σ ds → LW H0 a () H → ∀ Q : Bool → Hp → Prop, (∀ b H', Tm K H H' → LW H0 a () H' → Q b H') → tt σ H Q
abbrev LR (t : TS) (ds : Lo) (P : D → Prop) : Prop := GR K (LW H0 a) t ds () (fun d _ => P d)
end
section
variable {K : PySem.W.Frag} {H0 : Hp} {a : Addr} {te ta tb : TE} {tt : TT} {t u w : TS} {as ar : TA} {ds ds' : Lo} {P P2 : D → Prop} {R R2 : List D → Prop} {d : D} {l : List D} {i j : Nat}
theorem le_ed (h : ED K te ds d) : LE K H0 a te ds (· = d) := fun σ H L W Q q => h σ H L Q fun v H' e r => q v H' d () rfl (Tm.ex e) (Gr.g e W) r
theorem le_wk (h : LE K H0 a te ds P) (hp : ∀ d, P d → P2 d) : LE K H0 a te ds P2 := fun σ H L W Q q => h σ H L W Q fun v H' d s p => q v H' d s (hp _ p)
theorem les_nil : LEs K H0 a tNil ds (· = []) := fun σ H L W Q q => q [] H [] rfl Tm.refl W rfl
theorem les_cons (h : LE K H0 a te ds P) (hr : LEs K H0 a as ds R) : LEs K H0 a (tCons te as) ds (fun l => ∃ d r, P d ∧ R r ∧ l = d :: r) := fun σ H L W Q q =>
  h σ H L W _ fun v H' d s p tm W' r => hr σ H' (L.mono tm) W' _ fun vs H2 l pl tm2 W2 r2 => q (v :: vs) H2 (d :: l) ⟨d, l, p, pl, rfl⟩ (tm.trans tm2) W2 (.cons (r.mono tm2) r2)
theorem les_wk (h : LEs K H0 a as ds R) (hp : ∀ d, R d → R2 d) : LEs K H0 a as ds R2 := fun σ H L W Q q => h σ H L W Q fun v H' d p => q v H' d (hp _ p)
theorem le_tup (h : LEs K H0 a as ds R) (hl : ∀ l, R l → l.length ≤ 900) : LE K H0 a (tTup as) ds (fun d => ∃ l, R l ∧ d = .t l) := fun σ H L W Q q =>
  h σ H L W _ fun vs H' l pl tm W' r => ⟨by rw [r.len]; exact Nat.le_of_lt (small1000 (by have := hl l pl; omega)), fun p hp =>
    q _ _ _ () ⟨l, pl, rfl⟩ (tm.trans (tm_new hp)) (Gr.g (Ex.new hp) W') (rep_tup upd_same (r.mono (tm_new hp)))⟩
theorem le_call {Rc : List D → (D → Prop) → Prop} {E : XK} (hi : ds[i]? = some (some (.r a))) (h : LEs K H0 a ar ds R) (hr : ∀ l, R l → ∃ P0, Rc l P0 ∧ ∀ d, P0 d → P d) : LE K H0 a (tCall (spW K Rc) [] E (tCons (tVar i) ar)) ds P := fun σ H L W Q q =>
  ⟨_, slf L hi, h σ H L W _ fun vs H' l pl tm W' r => by
    obtain ⟨P0, h1, h2⟩ := hr l pl
    exact ⟨H0, a, l, P0, vs, by rw [List.append_nil], r, W', h1, fun v H2 d p tm2 W2 r2 => q v H2 d () (h2 d p) (tm.trans tm2) W2 r2⟩⟩
theorem lt_eqI {y : Int} (h : LE K H0 a te ds P) (hp : ∀ d, P d → ∃ r, d = .i r) : LT K H0 a (tTest (tOp rEq te (tC (.int y)))) ds := fun σ H L W Q q =>
  h σ H L W _ fun v H' d s p tm W' r => by
    obtain ⟨x, rfl⟩ := hp d p
    have r' : v = .int x := r
    subst r'
    exact ⟨rfl, _, rfl, q _ H' tm W'⟩
theorem lr_if2 (h : LT K H0 a tt ds) (h1 : LR K H0 a t ds P) (h2 : LR K H0 a u ds P) : LR K H0 a (tIfS tt t u) ds P := fun D σ H L W q => h σ H L W _ fun b H' tm W' => by
  cases b with
  | true => exact iteT (h1 D σ H' (L.mono tm) W' fun v H2 d s p tm2 W2 r => q v H2 d s p (tm.trans tm2) W2 r)
  | false => exact iteF (h2 D σ H' (L.mono tm) W' fun v H2 d s p tm2 W2 r => q v H2 d s p (tm.trans tm2) W2 r)
/-- if t: return .. -/
theorem lr_either (h : LT K H0 a tt ds) (h1 : LR K H0 a t ds P) (h2 : LR K H0 a u ds P) : LR K H0 a (tSeq (tIfS tt t tNext) u) ds P := fun D σ H L W q => h σ H L W _ fun b H' tm W' => by
  cases b with
  | true => exact iteT (h1 { D with nx := u D } σ H' (L.mono tm) W' fun v H2 d s p tm2 W2 r => q v H2 d s p (tm.trans tm2) W2 r)
  | false => exact iteF (h2 D σ H' (L.mono tm) W' fun v H2 d s p tm2 W2 r => q v H2 d s p (tm.trans tm2) W2 r)
theorem lr_asg (h : LE K H0 a te ds P2) (hu : ∀ d, P2 d → LR K H0 a u (ds.set i (some d)) P) : LR K H0 a (tSeq (tAsg te (gName i)) u) ds P := fun D σ H L W q =>
  h σ H L W _ fun v H' d s p tm W' r => hu d p D _ H' ((L.mono tm).set r i) W' fun v2 H2 d2 s2 p2 tm2 W2 r2 => q v2 H2 d2 s2 p2 (tm.trans tm2) W2 r2
theorem lr_ret (h : LE K H0 a te ds P) : LR K H0 a (tRet te) ds P := rr_ret h
/-- if t: x = .. -/
theorem lr_asgIf (h : LT K H0 a tt ds) (h1 : LE K H0 a te ds P2) (hu : ∀ d, P2 d → LR K H0 a u (ds.set i (some d)) P) (h2 : LR K H0 a u ds P) : LR K H0 a (tSeq (tIfS tt (tAsg te (gName i)) tNext) u) ds P := fun D σ H L W q => h σ H L W _ fun b H' tm W' => by
  cases b with
  | true => exact iteT (h1 σ H' (L.mono tm) W' _ fun v H2 d s p tm2 W2 r => hu d p D _ H2 (((L.mono tm).mono tm2).set r i) W2 fun v2 H3 d2 s2 p2 tm3 W3 r2 => q v2 H3 d2 s2 p2 ((tm.trans tm2).trans tm3) W3 r2)
  | false => exact iteF (h2 D σ H' (L.mono tm) W' fun v H2 d s p tm2 W2 r => q v H2 d s p (tm.trans tm2) W2 r)
theorem lr_rd (h : RD K t ds d) (hp : P d) : LR K H0 a t ds P := fun D σ H L W q => h D σ H L fun v H' e r => q v H' d () hp (Tm.ex e) (Gr.g e W) r
theorem lr_no (h : EB K tt ds false) (hu : LR K H0 a u ds P) : LR K H0 a (tSeq (tIfS tt t tNext) u) ds P := rr_skip (bm_eb h) hu
theorem lr_yes (h : EB K tt ds true) (hu : LR K H0 a t ds P) : LR K H0 a (tSeq (tIfS tt t tNext) u) ds P := rr_take (bm_eb h) hu
theorem tk {E : XK} {m : Int} (hi : ds[i]? = some (some (.r a))) (m0 : 0 < m) (m1 : m < 1000) : LE K H0 a (tCall (spW K RTk) [] E (tCons (tVar i) (tCons (tC (.int m)) tNil))) ds (fun d => ∃ r : Int, 0 ≤ r ∧ r < m ∧ d = .i r) :=
  le_call hi (les_cons (le_ed ed_i) les_nil) fun l h => by
    obtain ⟨d, r, rfl, rfl, rfl⟩ := h
    exact ⟨_, ⟨m, rfl, m0, m1, rfl⟩, fun d z => z⟩
theorem tkI {m : Int} : ∀ d : D, (∃ r : Int, 0 ≤ r ∧ r < m ∧ d = .i r) → ∃ r, d = .i r := fun d ⟨r, _, _, h⟩ => ⟨r, h⟩
end
section
variable {P : Program} {w : World} {K : PySem.W.Frag} {mg : Str → Option Value} {base : Heap}
theorem ok_w {x qual : Str} {params : Arguments} {body : List Stmt} {scope : Scope} {f : Addr} {fd : FuncData} {N ps : List Str} {k : Nat} {R : List D → (D → Prop) → Prop} (F : FunD K x qual params body scope [] [] f fd) (S : FnScope N ps scope)
    (len : ∀ l Po, R l Po → l.length + 1 = ps.length)
    (hb : ∀ (cdv : Value) (A : Around) (outer : List Env) (s : Shared) (H : Hp) (E : XK) (H0 : Hp) (a : Addr) (l : List D) (Po : D → Prop), Room k (A.deeper (envOfC qual scope s.heap.objs.size f cdv)) → R l Po →
      ∃ t, PSs (cxOf C8.CX0 P w K mg base N qual scope f cdv A outer s H E).nox body t ∧ LR K H0 a t (some (.r a) :: (l.map some ++ List.replicate (N.length - ps.length) none)) Po) : FnOk P w K mg base C8.CX0 (k + 1) f fd ps (spW K R) := by
  refine F.ok S (fun vs H Q E h => ?_) fun cdv A outer s H vs Q E hr h => ?_
  · obtain ⟨H0, a, l, Po, vs', rfl, h2, _, h4, _⟩ := h
    rw [List.length_cons, h2.len]; exact len l Po h4
  · obtain ⟨H0, a, l, Po, vs', rfl, h2, h3, h4, h5⟩ := h
    obtain ⟨t, ht, hd⟩ := hb cdv A outer s H E H0 a l Po hr h4
    refine ⟨t, ht.nox, hd _ _ _ ?_ h3 fun v H' d _ p tm W' r => h5 v H' d p tm W' r⟩
    unfold L2.start
    rw [List.length_cons, h2.len, len l Po h4]
    exact ⟨rfl, lo_start _ h2⟩
/-! ### the type -/
def RTy (n : Nat) : List D → (D → Prop) → Prop := fun l P => ∃ m : Nat, l = [.i (m : Int)] ∧ m < n ∧ P = fun d => ∃ A, ht A ≤ m ∧ d = Ty.d A
theorem ok_type_step (T : Tx w K mg) {n k : Nat} (hk : 1 ≤ k) (c_law_type : C8.Cal P w K mg base k "_law_type" (spW K (RTy n)) []) : C8.Cal P w K mg base (k + 1) "_law_type" (spW K (RTy (n + 1))) [] := by
  have c_law_take := ok_take (P := P) (base := base) T
  refine mk_law_type T fun fd F => ok_w F sc_law_type (fun l Po h => by obtain ⟨m, rfl, _⟩ := h; rfl) fun cdv A outer s H E H0 a l Po hr h => ?_
  obtain ⟨m, rfl, hm, rfl⟩ := h
  refine ⟨_, (pss_cons (ps_set (i := 2) sc_law_type.nd rfl (Or.inl rfl) (C8.pe_c c_law_take hr (by omega) rfl (pa_cons (pv 0) (pa_cons pe_int pa_nil))))
  (pss_cons (ps_if (PW.pt (pw_and (pt_cmpR op_gt (pv 1) pe_int (nomark _)) (pw_and1 (pt_cmpR op_eq (pv 2) pe_int (nomark _))))) (pss_one (ps_ret (pe_tup (pa_cons pe_str (pa_cons (C8.pe_c c_law_type hr (by omega) rfl (pa_cons (pv 0) (pa_cons (pe_op op_sub (pv 1) pe_int) pa_nil))) (pa_cons (C8.pe_c c_law_type hr (by omega) rfl (pa_cons (pv 0) (pa_cons (pe_op op_sub (pv 1) pe_int) pa_nil))) pa_nil)))))) pss_nil)
  (pss_cons (ps_if (PW.pt (pw_and (pt_cmpR op_gt (pv 1) pe_int (nomark _)) (pw_and1 (pt_cmpR op_eq (pv 2) pe_int (nomark _))))) (pss_one (ps_ret (pe_tup (pa_cons pe_str (pa_cons (C8.pe_c c_law_type hr (by omega) rfl (pa_cons (pv 0) (pa_cons (pe_op op_sub (pv 1) pe_int) pa_nil))) (pa_cons (C8.pe_c c_law_type hr (by omega) rfl (pa_cons (pv 0) (pa_cons (pe_op op_sub (pv 1) pe_int) pa_nil))) pa_nil)))))) pss_nil)
  (pss_cons (ps_if (PW.pt (pw_and (pt_cmpR op_gt (pv 1) pe_int (nomark _)) (pw_and1 (pt_cmpR op_eq (pv 2) pe_int (nomark _))))) (pss_one (ps_ret (pe_tup (pa_cons pe_str (pa_cons (C8.pe_c c_law_type hr (by omega) rfl (pa_cons (pv 0) (pa_cons (pe_op op_sub (pv 1) pe_int) pa_nil))) pa_nil))))) pss_nil)
  (pss_one (ps_ret (pe_ix ix_list (pe_lst (pa_cons (pe_tup (pa_cons pe_str pa_nil)) (pa_cons (pe_tup (pa_cons pe_str pa_nil)) (pa_cons (pe_tup (pa_cons pe_str pa_nil)) (pa_cons (pe_tup (pa_cons pe_str pa_nil)) (pa_cons (pe_tup (pa_cons pe_str pa_nil)) (pa_cons (pe_tup (pa_cons pe_str pa_nil)) pa_nil))))))) (pe_op op_mod (pv 2) pe_int) (fun _ _ => rfl)))))))), lr_asg (tk rfl (by decide) (by decide)) fun d hd => ?_⟩
  obtain ⟨r, r0, r1, rfl⟩ := hd
  have gt : ED K (tOp (rI0 fun i j => V.bl (decide (j < i))) (tVar 1) (tC (.int 0))) [some (.r a), some (.i (m : Int)), some (.i r)] (.b (decide ((0 : Int) < (m : Int)))) := ed_gt (ed_var rfl) ed_i
  have eq : ∀ y : Int, EB K (tTest (tOp rEq (tVar 2) (tC (.int y)))) [some (.r a), some (.i (m : Int)), some (.i r)] (decide (r = y)) := fun y => eb_eqI (ed_var rfl) ed_i rfl
  have pick : LR K H0 a (tRet (tOp (rIxL K) (tLst (tCons (tTup (tCons (tC (.str "int")) tNil)) (tCons (tTup (tCons (tC (.str "any")) tNil)) (tCons (tTup (tCons (tC (.str "bool")) tNil)) (tCons (tTup (tCons (tC (.str "int")) tNil)) (tCons (tTup (tCons (tC (.str "unit")) tNil)) (tCons (tTup (tCons (tC (.str "any")) tNil)) tNil))))))) (tOp (rI (fun _ j => 0 < j) fun i j => .int (i % j)) (tVar 2) (tC (.int 6))))) [some (.r a), some (.i (m : Int)), some (.i r)] (fun d => ∃ A, ht A ≤ m ∧ d = Ty.d A) := by
    have hj : r % 6 = (((r % 6).toNat : Nat) : Int) := by omega
    have tp : ∀ x : Str, ED K (tTup (tCons (tC (.str x)) tNil)) [some (.r a), some (.i (m : Int)), some (.i r)] (.t [.s x]) := fun x => ed_tup (es_cons ed_s es_nil) (Nat.le_of_ble_eq_true rfl)
    have ls : EDs K (tCons (tTup (tCons (tC (.str "int")) tNil)) (tCons (tTup (tCons (tC (.str "any")) tNil)) (tCons (tTup (tCons (tC (.str "bool")) tNil)) (tCons (tTup (tCons (tC (.str "int")) tNil)) (tCons (tTup (tCons (tC (.str "unit")) tNil)) (tCons (tTup (tCons (tC (.str "any")) tNil)) tNil)))))) [some (.r a), some (.i (m : Int)), some (.i r)] [Ty.d .int, Ty.d .any, Ty.d .bool, Ty.d .int, Ty.d .unit, Ty.d .any] := es_cons (tp _) (es_cons (tp _) (es_cons (tp _) (es_cons (tp _) (es_cons (tp _) (es_cons (tp _) es_nil)))))
    have md := ed_mod (K := K) (ds := [some (.r a), some (.i (m : Int)), some (.i r)]) (ta := tVar 2) (tb := tC (.int 6)) (m := r) (n := 6) (ed_var rfl) ed_i (by decide)
    have hlt : (r % 6).toNat < 6 := by omega
    generalize (r % 6).toNat = q at hj hlt
    match q, hlt with
    | 0, _ => exact lr_rd (rd_ret (ed_pick ls (by decide) md (by rfl) hj)) ⟨.int, Nat.zero_le _, rfl⟩
    | 1, _ => exact lr_rd (rd_ret (ed_pick ls (by decide) md (by rfl) hj)) ⟨.any, Nat.zero_le _, rfl⟩
    | 2, _ => exact lr_rd (rd_ret (ed_pick ls (by decide) md (by rfl) hj)) ⟨.bool, Nat.zero_le _, rfl⟩
    | 3, _ => exact lr_rd (rd_ret (ed_pick ls (by decide) md (by rfl) hj)) ⟨.int, Nat.zero_le _, rfl⟩
    | 4, _ => exact lr_rd (rd_ret (ed_pick ls (by decide) md (by rfl) hj)) ⟨.unit, Nat.zero_le _, rfl⟩
    | 5, _ => exact lr_rd (rd_ret (ed_pick ls (by decide) md (by rfl) hj)) ⟨.any, Nat.zero_le _, rfl⟩
  by_cases m0 : m = 0
  · subst m0
    have gt' : EB K (tTest (tOp (rI0 fun i j => V.bl (decide (j < i))) (tVar 1) (tC (.int 0)))) [some (.r a), some (.i ((0 : Nat) : Int)), some (.i r)] false := eb_test gt
    refine lr_no (eb_and gt' (fun z => nomatch z) fun _ => rfl) (lr_no (eb_and gt' (fun z => nomatch z) fun _ => rfl) (lr_no (eb_and gt' (fun z => nomatch z) fun _ => rfl) pick))
  · have gt' : EB K (tTest (tOp (rI0 fun i j => V.bl (decide (j < i))) (tVar 1) (tC (.int 0)))) [some (.r a), some (.i (m : Int)), some (.i r)] true := by
      have e : decide ((0 : Int) < (m : Int)) = true := decide_eq_true (by omega)
      rw [e] at gt
      exact eb_test gt
    have sub : LE K H0 a (tCall (spW K (RTy n)) [] C8.E0 (tCons (tVar 0) (tCons (tOp (rI0 fun i j => .int (i - j)) (tVar 1) (tC (.int 1))) tNil))) [some (.r a), some (.i (m : Int)), some (.i r)] (fun d => ∃ A, ht A + 1 ≤ m ∧ d = Ty.d A) :=
      le_call rfl (les_cons (le_ed (ed_sub (ed_var rfl) ed_i)) les_nil) fun l h => by
        obtain ⟨d, r, rfl, rfl, rfl⟩ := h
        refine ⟨_, ⟨m - 1, ?_, by omega, rfl⟩, fun d z => ?_⟩
        · have : (m : Int) - 1 = ((m - 1 : Nat) : Int) := by omega
          rw [this]
        · obtain ⟨A, h, rfl⟩ := z
          exact ⟨A, by omega, rfl⟩
    by_cases e0 : r = 0
    · subst e0
      refine lr_yes (eb_and gt' (fun _ => eq 0) fun z => nomatch z) (lr_ret (le_wk (le_tup (les_cons (le_ed ed_s) (les_cons sub (les_cons sub les_nil))) fun l h => ?_) fun d h => ?_))
      · obtain ⟨_, _, _, ⟨_, _, _, ⟨_, _, _, rfl, rfl⟩, rfl⟩, rfl⟩ := h
        exact Nat.le_of_ble_eq_true rfl
      · obtain ⟨l, ⟨_, _, rfl, ⟨_, _, ⟨A, hA, rfl⟩, ⟨_, _, ⟨B, hB, rfl⟩, rfl, rfl⟩, rfl⟩, rfl⟩, rfl⟩ := h
        exact ⟨.fn A B, by show max (ht A) (ht B) + 1 ≤ m; omega, rfl⟩
    · have f0 := eq 0
      rw [decide_eq_false e0] at f0
      refine lr_no (eb_and gt' (fun _ => f0) fun z => nomatch z) ?_
      by_cases e1 : r = 1
      · subst e1
        refine lr_yes (eb_and gt' (fun _ => eq 1) fun z => nomatch z) (lr_ret (le_wk (le_tup (les_cons (le_ed ed_s) (les_cons sub (les_cons sub les_nil))) fun l h => ?_) fun d h => ?_))
        · obtain ⟨_, _, _, ⟨_, _, _, ⟨_, _, _, rfl, rfl⟩, rfl⟩, rfl⟩ := h
          exact Nat.le_of_ble_eq_true rfl
        · obtain ⟨l, ⟨_, _, rfl, ⟨_, _, ⟨A, hA, rfl⟩, ⟨_, _, ⟨B, hB, rfl⟩, rfl, rfl⟩, rfl⟩, rfl⟩, rfl⟩ := h
          exact ⟨.pr A B, by show max (ht A) (ht B) + 1 ≤ m; omega, rfl⟩
      · have f1 := eq 1
        rw [decide_eq_false e1] at f1
        refine lr_no (eb_and gt' (fun _ => f1) fun z => nomatch z) ?_
        by_cases e2 : r = 2
        · subst e2
          refine lr_yes (eb_and gt' (fun _ => eq 2) fun z => nomatch z) (lr_ret (le_wk (le_tup (les_cons (le_ed ed_s) (les_cons sub les_nil)) fun l h => ?_) fun d h => ?_))
          · obtain ⟨_, _, _, ⟨_, _, _, rfl, rfl⟩, rfl⟩ := h
            exact Nat.le_of_ble_eq_true rfl
          · obtain ⟨l, ⟨_, _, rfl, ⟨_, _, ⟨A, hA, rfl⟩, rfl, rfl⟩, rfl⟩, rfl⟩ := h
            exact ⟨.bx A, by show ht A + 1 ≤ m; omega, rfl⟩
        · have f2 := eq 2
          rw [decide_eq_false e2] at f2
          exact lr_no (eb_and gt' (fun _ => f2) fun z => nomatch z) pick
theorem ok_type (T : Tx w K mg) : ∀ n : Nat, C8.Cal P w K mg base (n + 2) "_law_type" (spW K (RTy n)) []
  | 0 => by
    refine mk_law_type T fun fd F => ok_w F sc_law_type (fun l Po h => by obtain ⟨m, rfl, _⟩ := h; rfl) fun cdv A outer s H E H0 a l Po hr h => ?_
    obtain ⟨m, rfl, hm, rfl⟩ := h
    omega
  | n + 1 => ok_type_step T (by omega) (ok_type T n)
end
end Hn
end

/- HnW21 -/
section
set_option Elab.async false
set_option linter.all false
set_option maxRecDepth 100000
set_option maxHeartbeats 4000000
namespace Hn
open PySem PySem.Spec PyProof.Rows L2 Evl
local macro_rules | `(tactic| walk_at "ev") => `(tactic| first
  | ((with_reducible show ED _ (tVar _) _ _); exact ed_var rfl)
  | ((with_reducible show ED _ (tC _) _ _); first | exact ed_s | exact ed_i | exact ed_b | exact ed_n | exact ed_c (by assumption))
  | ((with_reducible show ED _ (tOp (rIxT _) _ (tC (V.int 0))) _ _); refine' ed_ix0 ?k1 ?k2; (case k1 => walk_at "ev"); (case k2 => rfl))
  | ((with_reducible show ED _ (tOp (rIxT _) _ (tC (V.int 1))) _ _); refine' ed_ix1 ?k1 ?k2; (case k1 => walk_at "ev"); (case k2 => rfl))
  | ((with_reducible show ED _ (tOp (rIxT _) _ (tC (V.int 2))) _ _); refine' ed_ix2 ?k1 ?k2; (case k1 => walk_at "ev"); (case k2 => rfl))
  | ((with_reducible show ED _ (tOp (rIxT _) _ (tC (V.int 3))) _ _); refine' ed_ix3 ?k1 ?k2; (case k1 => walk_at "ev"); (case k2 => rfl))
  | ((with_reducible show ED _ (tOp (rIxT _) _ (tC (V.int 4))) _ _); refine' ed_ix4 ?k1 ?k2; (case k1 => walk_at "ev"); (case k2 => rfl))
  | ((with_reducible show ED _ (tOp (rIxT _) _ (tC (V.int 5))) _ _); refine' ed_ix5 ?k1 ?k2; (case k1 => walk_at "ev"); (case k2 => rfl))
  | ((with_reducible show ED _ (tOp (rIxT _) _ (tVar _)) _ _); first
    | (refine' ed_ixE (j := 1) ?k1 ?k2 ?k3 ?k4; (case k1 => walk_at "ev"); (case k2 => walk_at "ev"); (case k3 => rfl); (case k4 => first | rfl | decide))
    | (refine' ed_ixE (j := 2) ?k1 ?k2 ?k3 ?k4; (case k1 => walk_at "ev"); (case k2 => walk_at "ev"); (case k3 => rfl); (case k4 => first | rfl | decide)))
  | ((with_reducible show ED _ (tCB _ (tCons _ tNil)) _ _); refine' ed_len ?k1 ?k2; (case k1 => walk_at "ev"); (case k2 => rfl))
  | ((with_reducible show ED _ (tTup _) _ _); refine' ed_tup ?k1 ?k2; (case k1 => walk_at "es"); (case k2 => exact Nat.le_of_ble_eq_true rfl))
  | ((with_reducible show ED _ (tCall _ _ _ _) _ _); refine' ed_call ?k1 ?k2; (case k1 => walk_at "es"); (case k2 => walk_at "cl"))
  | ((with_reducible show ED _ (tCallN _ _ _ _ _ _ _) _ _); refine' ed_callK ?k1 ?k2 ?k3 ?k4 ?k5; (case k1 => walk_at "es"); (case k2 => walk_at "es"); (case k3 => walk_at "cl"); (case k4 => rfl); (case k5 => rfl))
  | ((with_reducible show ED _ (tOp (rI0 _) _ _) _ _); first
    | (refine' ed_add ?k1 ?k2; (case k1 => walk_at "ev"); (case k2 => walk_at "ev"))
    | (refine' ed_sub ?k1 ?k2; (case k1 => walk_at "ev"); (case k2 => walk_at "ev"))
    | (refine' ed_lt ?k1 ?k2; (case k1 => walk_at "ev"); (case k2 => walk_at "ev"))))
local macro_rules | `(tactic| walk_at "es") => `(tactic| first
  | ((with_reducible show EDs _ tNil _ _); exact es_nil)
  | ((with_reducible show EDs _ (tCons _ _) _ _); refine' es_cons ?k1 ?k2; (case k1 => walk_at "ev"); (case k2 => walk_at "es")))
local macro_rules | `(tactic| walk_at "eb") => `(tactic| first
  | ((with_reducible show EB _ (tTest (tOp rEq _ _)) _ _); refine' eb_eqS ?k1 ?k2 ?k3; (case k1 => walk_at "ev"); (case k2 => walk_at "ev"); (case k3 => first | decide +kernel | assumption))
  | ((with_reducible show EB _ (tTest (tOp rNe _ _)) _ _); refine' eb_neS ?k1 ?k2 ?k3; (case k1 => walk_at "ev"); (case k2 => walk_at "ev"); (case k3 => first | decide +kernel | assumption))
  | ((with_reducible show EB _ (tTest (tOp (rEqD _) _ _)) _ _); first
    | (refine' eb_ck ?k1 ?k2 ?k3 ?k4; (case k1 => walk_at "ev"); (case k2 => walk_at "ev"); (case k3 => first | rfl | decide +kernel | assumption); (case k4 => first | assumption | decide +kernel | omega))
    | (refine' eb_tyA ?k1 ?k2 ?k3 ?k4; (case k1 => walk_at "ev"); (case k2 => walk_at "ev"); (case k3 => first | rfl | decide +kernel | assumption); (case k4 => first | assumption | decide +kernel | omega))
    | (refine' eb_ty ?k1 ?k2 ?k3 ?k4 ?k5; (case k1 => walk_at "ev"); (case k2 => walk_at "ev"); (case k3 => first | assumption | rfl); (case k4 => first | assumption | decide +kernel | omega); (case k5 => first | assumption | decide +kernel | omega)))
  | ((with_reducible show EB _ (tTest (tOp (rIn _ _) _ _)) _ _); refine' eb_in ?k1 ?k2 ?k3; (case k1 => walk_at "ev"); (case k2 => walk_at "ev"); (case k3 => decide +kernel))
  | ((with_reducible show EB _ (tOr _ _) _ _); first
    | (refine' eb_or (b := true) ?k1 ?k2 ?k3; (case k1 => walk_at "eb"); (case k2 => intro z; cases z); (case k3 => intro _; rfl))
    | (refine' eb_or (b := false) ?k1 ?k2 ?k3; (case k1 => walk_at "eb"); (case k2 => intro _; walk_at "eb"); (case k3 => intro z; cases z)))
  | ((with_reducible show EB _ (tAnd _ _) _ _); first
    | (refine' eb_and (b := false) ?k1 ?k2 ?k3; (case k1 => walk_at "eb"); (case k2 => intro z; cases z); (case k3 => intro _; rfl))
    | (refine' eb_and (b := true) ?k1 ?k2 ?k3; (case k1 => walk_at "eb"); (case k2 => intro _; walk_at "eb"); (case k3 => intro z; cases z)))
  | ((with_reducible show EB _ (tNot _) _ _); first | (refine' eb_not (b := true) ?k1 rfl; (case k1 => walk_at "eb")) | (refine' eb_not (b := false) ?k1 rfl; (case k1 => walk_at "eb")))
  | ((with_reducible show EB _ (tB _) _ _); refine' eb_val ?k1; (case k1 => walk_at "ev")))
local macro_rules | `(tactic| walk_at "rd") => `(tactic| first
  | ((with_reducible show RD _ (tRet _) _ _); refine' rd_ret ?k1; (case k1 => walk_at "ev"))
  | ((with_reducible show RD _ (tSeq (tIfS _ _ tNext) _) _ _); (first
    | ((with_reducible refine' rd_skip ?k1 ?k2); (case k1 => walk_at "eb"))
    | ((with_reducible refine' rd_take ?k1 ?k2); (case k1 => walk_at "eb"))); (walk_at "rd"))
  | ((with_reducible show RD _ (tIfS _ _ _) _ _); (first
    | ((with_reducible refine' rd_yes ?k1 ?k2); (case k1 => walk_at "eb"))
    | ((with_reducible refine' rd_no ?k1 ?k2); (case k1 => walk_at "eb"))); (walk_at "rd"))
  | ((with_reducible show RD _ (tSeq _ _) _ _); (with_reducible refine' rd_sn ?k1 ?k2); (case k1 => walk_at "nd"); (case k2 => walk_at "rd")))
local macro_rules | `(tactic| walk_at "nd") => `(tactic| first
  | ((with_reducible show ND _ tNext _ _); exact nd_next)
  | ((with_reducible show ND _ (tAsg _ _) _ _); refine' nd_asg ?k1; (case k1 => walk_at "ev"))
  | ((with_reducible show ND _ (tIfS _ _ _) _ _); (first
    | ((with_reducible refine' nd_yes ?k1 ?k2); (case k1 => walk_at "eb"))
    | ((with_reducible refine' nd_no ?k1 ?k2); (case k1 => walk_at "eb"))); (walk_at "nd"))
  | ((with_reducible show ND _ (tSeq _ _) _ _); (with_reducible refine' nd_sn ?k1 ?k2); (case k1 => walk_at "nd"); (case k2 => walk_at "nd")))
local macro_rules | `(tactic| walk_at "cl") => `(tactic| first | assumption | skip)
local macro_rules | `(tactic| walk_at "gv") => `(tactic| first
  | (refine' em_ed ?k1; (case k1 => walk_at "ev"))
  | ((with_reducible show GE _ _ (tFld _ _ _) _ _ _); first
    | (refine' ge_known ?kT ?k1 ?k2; (case kT => assumption); (case k1 => walk_at "gv"); (case k2 => assumption))
    | (refine' ge_core ?kT ?k1 ?k2; (case kT => assumption); (case k1 => walk_at "gv"); (case k2 => assumption))
    | (refine' ge_num ?kT ?k1 ?k2; (case kT => assumption); (case k1 => walk_at "gv"); (case k2 => assumption)))
  | ((with_reducible show GE _ _ (tOp (rIxL _) _ (tC (V.int 0))) _ _ _); refine' ge_ixL0 ?k1 ?k2 ?k3; (case k1 => walk_at "gv"); (case k2 => assumption); (case k3 => rfl))
  | ((with_reducible show GE _ _ (tOp (rIxL _) _ (tC (V.int 1))) _ _ _); refine' ge_ixL1 ?k1 ?k2 ?k3; (case k1 => walk_at "gv"); (case k2 => assumption); (case k3 => rfl))
  | ((with_reducible show GE _ _ (tOp (rIxL _) _ (tC (V.int 2))) _ _ _); refine' ge_ixL2 ?k1 ?k2 ?k3; (case k1 => walk_at "gv"); (case k2 => assumption); (case k3 => rfl))
  | ((with_reducible show GE _ _ (tOp (rIxT _) _ (tC (V.int 0))) _ _ _); refine' ge_ix0 ?k1 ?k2; (case k1 => walk_at "gv"); (case k2 => rfl))
  | ((with_reducible show GE _ _ (tOp (rIxT _) _ (tC (V.int 1))) _ _ _); refine' ge_ix1 ?k1 ?k2; (case k1 => walk_at "gv"); (case k2 => rfl))
  | ((with_reducible show GE _ _ (tOp (rIxT _) _ (tC (V.int 2))) _ _ _); refine' ge_ix2 ?k1 ?k2; (case k1 => walk_at "gv"); (case k2 => rfl))
  | ((with_reducible show GE _ _ (tTup _) _ _ _); refine' em_tup ?k1 ?k2; (case k1 => walk_at "gs"); (case k2 => exact Nat.le_of_ble_eq_true rfl))
  | ((with_reducible show GE _ _ (tMeth _ _ _ _ _ _ _) _ _ _); refine' ge_fit ?k1 ?k2 ?k3 ?k4; (case k1 => walk_at "gv"); (case k2 => assumption); (case k3 => walk_at "gs"); (case k4 => walk_at "cl"))
  | ((with_reducible show GE _ _ (tCall (spQ _ _) _ _ _) _ _ _); refine' ge_q ?k1 ?k2; (case k1 => walk_at "gs"); (case k2 => walk_at "cl"))
  | ((with_reducible show GE _ _ (tCall (spD _ _) _ _ _) _ _ _); refine' em_call ?k1 ?k2; (case k1 => walk_at "gs"); (case k2 => walk_at "cl")))
local macro_rules | `(tactic| walk_at "gs") => `(tactic| first
  | ((with_reducible show GEs _ _ tNil _ _ _ _); exact ems_nil)
  | ((with_reducible show GEs _ _ (tCons _ _) _ _ _ _); refine' ems_cons ?k1 ?k2; (case k1 => walk_at "gv"); (case k2 => walk_at "gs")))
local macro_rules | `(tactic| walk_at "gb") => `(tactic| first
  | (refine' bm_eb ?k1; (case k1 => walk_at "eb"))
  | ((with_reducible show GB _ _ (tTest (tOp (rEqD _) _ _)) _ _ _ _); first
    | (refine' gb_tyA ?k1 ?k2 ?k3 ?k4; (case k1 => walk_at "gv"); (case k2 => walk_at "gv"); (case k3 => first | rfl | decide +kernel | assumption); (case k4 => first | assumption | decide +kernel | omega))
    | (refine' gb_ty ?k1 ?k2 ?k3 ?k4 ?k5; (case k1 => walk_at "gv"); (case k2 => walk_at "gv"); (case k3 => first | assumption | rfl); (case k4 => first | assumption | decide +kernel | omega); (case k5 => first | assumption | decide +kernel | omega)))
  | ((with_reducible show GB _ _ (tTest (tOp rNe _ _)) _ _ _ _); refine' gb_neS ?k1 ?k2 ?k3; (case k1 => walk_at "gv"); (case k2 => walk_at "gv"); (case k3 => first | decide +kernel | assumption))
  | ((with_reducible show GB _ _ (tNot _) _ _ _ _); first | (refine' bm_not (b := true) ?k1 rfl; (case k1 => walk_at "gb")) | (refine' bm_not (b := false) ?k1 rfl; (case k1 => walk_at "gb")))
  | ((with_reducible show GB _ _ (tB _) _ _ _ _); refine' gb_val ?k1; (case k1 => walk_at "gv")))
local macro_rules | `(tactic| walk_at "gr") => `(tactic| first
  | ((with_reducible show GR _ _ (tRet _) _ _ _); refine' rr_ret ?k1; (case k1 => walk_at "gv"))
  | ((with_reducible show GR _ _ (tSeq (tIfS _ _ tNext) _) _ _ _); (first
    | ((with_reducible refine' rr_skip ?k1 ?k2); (case k1 => walk_at "gb"))
    | ((with_reducible refine' rr_take ?k1 ?k2); (case k1 => walk_at "gb"))); (walk_at "gr"))
  | ((with_reducible show GR _ _ (tSeq _ _) _ _ _); (with_reducible refine' rr_sn ?k1 ?k2); (case k1 => walk_at "gn"); (case k2 => walk_at "gr")))
local macro_rules | `(tactic| walk_at "gn") => `(tactic| first
  | ((with_reducible show GN _ _ tNext _ _ _ _); exact nm_next)
  | ((with_reducible show GN _ _ (tAsg _ (gName _)) _ _ _ _); refine' nm_asg ?k1; (case k1 => walk_at "gv"))
  | ((with_reducible show GN _ _ (tAsg _ _) _ _ _ _); refine' gn_up2 ?k1; (case k1 => walk_at "gv"))
  | ((with_reducible show GN _ _ (tIfS _ _ _) _ _ _ _); (first
    | ((with_reducible refine' nm_yes ?k1 ?k2); (case k1 => walk_at "gb"))
    | ((with_reducible refine' nm_no ?k1 ?k2); (case k1 => walk_at "gb"))); (walk_at "gn"))
  | ((with_reducible show GN _ _ (tSeq _ _) _ _ _ _); (with_reducible refine' nm_sn ?k1 ?k2); (case k1 => walk_at "gn"); (case k2 => walk_at "gn")))
/-- the constants of a type -/
inductive IsC : Ty → Sx → Prop
  | fn {A B : Ty} {e : Sx} (x : Nm) (h : IsC B e) : IsC (.fn A B) (.fn x A e)
  | pr {A B : Ty} {e f : Sx} (h : IsC A e) (g : IsC B f) : IsC (.pr A B) (.pr e f)
  | bx {A : Ty} {e : Sx} (h : IsC A e) : IsC (.bx A) (.bx e)
  | any : IsC .any (.as (.flag true) .any)
  | unit : IsC .unit .unit
  | bool : IsC .bool (.flag false)
  | int (i : Int) (h0 : 0 ≤ i) (h1 : i < 99) : IsC .int (.num i)
section
variable {P : Program} {w : World} {K : PySem.W.Frag} {mg : Str → Option Value} {base : Heap}
/-! ### looser -/
def RLo (n : Nat) : List D → (D → Prop) → Prop := fun l P => ∃ A, l = [Ty.d A] ∧ ht A < n ∧ P = fun d => ∃ B, le B A ∧ d = Ty.d B
theorem le_rfl' : ∀ A : Ty, le A A
  | .any => trivial | .int => trivial | .bool => trivial | .unit => trivial | .fn a b => ⟨le_rfl' a, le_rfl' b⟩ | .pr a b => ⟨le_rfl' a, le_rfl' b⟩ | .bx a => le_rfl' a
theorem ok_looser_step (T : Tx w K mg) {n k : Nat} (hk : 1 ≤ k) (c_law_looser : C8.Cal P w K mg base k "_law_looser" (spW K (RLo n)) []) : C8.Cal P w K mg base (k + 1) "_law_looser" (spW K (RLo (n + 1))) [] := by
  have c_law_take := ok_take (P := P) (base := base) T
  refine mk_law_looser T fun fd F => ok_w F sc_law_looser (fun l Po h => by obtain ⟨m, rfl, _⟩ := h; rfl) fun cdv A outer s H E H0 a l Po hr h => ?_
  obtain ⟨A, rfl, hA, rfl⟩ := h
  refine ⟨_, (pss_cons (ps_if (pt_cmpR op_eq (C8.pe_c c_law_take hr (by omega) rfl (pa_cons (pv 0) (pa_cons pe_int pa_nil))) pe_int (nomark _)) (pss_one (ps_ret (pe_tup (pa_cons pe_str pa_nil)))) pss_nil)
  (pss_cons (ps_if (PW.pt (pw_or (pt_cmpR op_eq (pe_ix ix_tup (pv 1) pe_int (fun _ _ => rfl)) pe_str (nomark _)) (pw_or1 (pt_cmpR op_eq (pe_ix ix_tup (pv 1) pe_int (fun _ _ => rfl)) pe_str (nomark _))))) (pss_one (ps_ret (pe_tup (pa_cons (pe_ix ix_tup (pv 1) pe_int (fun _ _ => rfl)) (pa_cons (C8.pe_c c_law_looser hr (by omega) rfl (pa_cons (pv 0) (pa_cons (pe_ix ix_tup (pv 1) pe_int (fun _ _ => rfl)) pa_nil))) (pa_cons (C8.pe_c c_law_looser hr (by omega) rfl (pa_cons (pv 0) (pa_cons (pe_ix ix_tup (pv 1) pe_int (fun _ _ => rfl)) pa_nil))) pa_nil)))))) pss_nil)
  (pss_cons (ps_if (pt_cmpR op_eq (pe_ix ix_tup (pv 1) pe_int (fun _ _ => rfl)) pe_str (nomark _)) (pss_one (ps_ret (pe_tup (pa_cons pe_str (pa_cons (C8.pe_c c_law_looser hr (by omega) rfl (pa_cons (pv 0) (pa_cons (pe_ix ix_tup (pv 1) pe_int (fun _ _ => rfl)) pa_nil))) pa_nil))))) pss_nil)
  (pss_one (ps_ret (pv 1)))))), lr_either (lt_eqI (tk rfl (by decide) (by decide)) tkI) (lr_rd (d := Ty.d .any) (rd_ret (ed_tup (es_cons ed_s es_nil) (Nat.le_of_ble_eq_true rfl))) ⟨.any, trivial, rfl⟩) ?_⟩
  have sub : ∀ (j : Nat) (y : Int) (B : Ty), (y = (j : Int)) → (∃ l, Ty.d A = .t l ∧ l[j]? = some (Ty.d B)) → ht B < n → LE K H0 a (tCall (spW K (RLo n)) [] C8.E0 (tCons (tVar 0) (tCons (tOp (rIxT K) (tVar 1) (tC (.int y))) tNil))) [some (.r a), some (Ty.d A)] (fun d => ∃ C, le C B ∧ d = Ty.d C) := fun j y B hy hB hn =>
    le_call rfl (les_cons (le_ed (by obtain ⟨l, h1, h2⟩ := hB; exact ed_ix (l := l) (ed_var (by rw [h1] <;> rfl)) h2 hy)) les_nil) fun l h => by
      obtain ⟨d, r, rfl, rfl, rfl⟩ := h
      exact ⟨_, ⟨B, rfl, hn, rfl⟩, fun d z => z⟩
  have k0 : ED K (tOp (rIxT K) (tVar 1) (tC (.int 0))) [some (.r a), some (Ty.d A)] (.s A.k) := ed_ix0 (l := .s A.k :: A.cs) (ed_var (by rw [← Ty.d_eq] <;> rfl)) rfl
  have three : ∀ (X Y : Ty) (x : Str) (hX : ∃ l, Ty.d A = .t l ∧ l[1]? = some (Ty.d X)) (hY : ∃ l, Ty.d A = .t l ∧ l[2]? = some (Ty.d Y)) (h1 : ht X < n) (h2 : ht Y < n) (hx : A.k = x), LE K H0 a (tTup (tCons (tOp (rIxT K) (tVar 1) (tC (.int 0))) (tCons (tCall (spW K (RLo n)) [] C8.E0 (tCons (tVar 0) (tCons (tOp (rIxT K) (tVar 1) (tC (.int 1))) tNil))) (tCons (tCall (spW K (RLo n)) [] C8.E0 (tCons (tVar 0) (tCons (tOp (rIxT K) (tVar 1) (tC (.int 2))) tNil))) tNil)))) [some (.r a), some (Ty.d A)] (fun d => ∃ C D, le C X ∧ le D Y ∧ d = .t [.s x, Ty.d C, Ty.d D]) := fun X Y x hX hY h1 h2 hx => by
    refine le_wk (le_tup (les_cons (le_ed k0) (les_cons (sub 1 1 X rfl hX h1) (les_cons (sub 2 2 Y rfl hY h2) les_nil))) fun l h => ?_) fun d h => ?_
    · obtain ⟨_, _, _, ⟨_, _, _, ⟨_, _, _, rfl, rfl⟩, rfl⟩, rfl⟩ := h
      exact Nat.le_of_ble_eq_true rfl
    · obtain ⟨l, ⟨_, _, rfl, ⟨_, _, ⟨C, hC, rfl⟩, ⟨_, _, ⟨D, hD, rfl⟩, rfl, rfl⟩, rfl⟩, rfl⟩, rfl⟩ := h
      exact ⟨C, D, hC, hD, by rw [hx]⟩
  cases A with
  | any => exact lr_rd (d := Ty.d .any) (by walk_at "rd") ⟨.any, trivial, rfl⟩
  | int => exact lr_rd (d := Ty.d .int) (by walk_at "rd") ⟨.int, trivial, rfl⟩
  | bool => exact lr_rd (d := Ty.d .bool) (by walk_at "rd") ⟨.bool, trivial, rfl⟩
  | unit => exact lr_rd (d := Ty.d .unit) (by walk_at "rd") ⟨.unit, trivial, rfl⟩
  | fn X Y =>
    have hz : max (ht X) (ht Y) + 1 < n + 1 := hA
    refine lr_yes (by walk_at "eb") (lr_ret (le_wk (three X Y "fun" ⟨_, rfl, rfl⟩ ⟨_, rfl, rfl⟩ (by omega) (by omega) rfl) fun d h => ?_))
    obtain ⟨C, D, h1, h2, rfl⟩ := h
    exact ⟨.fn C D, ⟨h1, h2⟩, rfl⟩
  | pr X Y =>
    have hz : max (ht X) (ht Y) + 1 < n + 1 := hA
    refine lr_yes (by walk_at "eb") (lr_ret (le_wk (three X Y "pair" ⟨_, rfl, rfl⟩ ⟨_, rfl, rfl⟩ (by omega) (by omega) rfl) fun d h => ?_))
    obtain ⟨C, D, h1, h2, rfl⟩ := h
    exact ⟨.pr C D, ⟨h1, h2⟩, rfl⟩
  | bx X =>
    have hz : ht X + 1 < n + 1 := hA
    refine lr_no (by walk_at "eb") (lr_yes (by walk_at "eb") (lr_ret (le_wk (le_tup (les_cons (le_ed ed_s) (les_cons (sub 1 1 X rfl ⟨_, rfl, rfl⟩ (by omega)) les_nil)) fun l h => ?_) fun d h => ?_)))
    · obtain ⟨_, _, _, ⟨_, _, _, rfl, rfl⟩, rfl⟩ := h
      exact Nat.le_of_ble_eq_true rfl
    · obtain ⟨l, ⟨_, _, rfl, ⟨_, _, ⟨C, hC, rfl⟩, rfl, rfl⟩, rfl⟩, rfl⟩ := h
      exact ⟨.bx C, hC, rfl⟩
theorem ok_looser (T : Tx w K mg) : ∀ n : Nat, C8.Cal P w K mg base (n + 2) "_law_looser" (spW K (RLo n)) []
  | 0 => by
    refine mk_law_looser T fun fd F => ok_w F sc_law_looser (fun l Po h => by obtain ⟨m, rfl, _⟩ := h; rfl) fun cdv A outer s H E H0 a l Po hr h => ?_
    obtain ⟨A, rfl, hA, _⟩ := h
    omega
  | n + 1 => ok_looser_step T (by omega) (ok_looser T n)
/-! ### detour, body, loop -/
def RDt : List D → (D → Prop) → Prop := fun l P => ∃ e A, l = [Sx.d e, Ty.d A] ∧ P = fun d => ∃ e', (e' = e ∨ e' = .as e A) ∧ d = Sx.d (.as (.as e' .any) A)
theorem ok_detour (T : Tx w K mg) : C8.Cal P w K mg base 2 "_law_detour" (spW K RDt) [] := by
  have c_law_take := ok_take (P := P) (base := base) T
  refine mk_law_detour T fun fd F => ok_w F sc_law_detour (fun l Po h => by obtain ⟨e, A, rfl, _⟩ := h; rfl) fun cdv A outer s H E H0 a l Po hr h => ?_
  obtain ⟨e, A, rfl, rfl⟩ := h
  refine ⟨_, (pss_cons (ps_if (pt_cmpR op_eq (C8.pe_c c_law_take hr (by omega) rfl (pa_cons (pv 0) (pa_cons pe_int pa_nil))) pe_int (nomark _)) (pss_one (ps_set (i := 1) sc_law_detour.nd rfl (Or.inl rfl) (pe_tup (pa_cons pe_str (pa_cons (pv 1) (pa_cons (pv 2) pa_nil)))))) pss_nil)
  (pss_one (ps_ret (pe_tup (pa_cons pe_str (pa_cons (pe_tup (pa_cons pe_str (pa_cons (pv 1) (pa_cons (pe_tup (pa_cons pe_str pa_nil)) pa_nil)))) (pa_cons (pv 2) pa_nil))))))), lr_asgIf (lt_eqI (tk rfl (by decide) (by decide)) tkI) (le_ed (d := Sx.d (.as e A)) (by walk_at "ev")) (fun d hd => ?_) ?_⟩
  · subst hd
    exact lr_rd (d := Sx.d (.as (.as (.as e A) .any) A)) (by walk_at "rd") ⟨_, .inr rfl, rfl⟩
  · exact lr_rd (d := Sx.d (.as (.as e .any) A)) (by walk_at "rd") ⟨_, .inl rfl, rfl⟩
/-- a body: rc the expression that is called -/
def bodyX (ag last : Sx) (A : Ty) (f : Bool) : Sx :=
  .ife (.op true (.name .n) (.num 1)) last (.as (.as (if f then .as (.call ag (.op false (.name .n) (.num 1))) A else .call ag (.op false (.name .n) (.num 1))) .any) A)
def RBd : List D → (D → Prop) → Prop := fun l P => ∃ ag last A, l = [Sx.d ag, Sx.d last, Ty.d A] ∧ P = fun d => ∃ f, d = Sx.d (bodyX ag last A f)
theorem ok_body (T : Tx w K mg) : C8.Cal P w K mg base 3 "_law_body" (spW K RBd) [] := by
  have c_law_detour := ok_detour (P := P) (base := base) T
  refine mk_law_body T fun fd F => ok_w F sc_law_body (fun l Po h => by obtain ⟨e, f, A, rfl, _⟩ := h; rfl) fun cdv A outer s H E H0 a l Po hr h => ?_
  obtain ⟨ag, last, A, rfl, rfl⟩ := h
  refine ⟨_, (pss_cons (ps_set (i := 1) sc_law_body.nd rfl (Or.inl rfl) (pe_tup (pa_cons pe_str (pa_cons (pv 1) (pa_cons (pe_tup (pa_cons pe_str (pa_cons pe_str (pa_cons (pe_tup (pa_cons pe_str (pa_cons pe_str pa_nil))) (pa_cons (pe_tup (pa_cons pe_str (pa_cons pe_int pa_nil))) pa_nil))))) pa_nil)))))
  (pss_one (ps_ret (pe_tup (pa_cons pe_str (pa_cons (pe_tup (pa_cons pe_str (pa_cons pe_str (pa_cons (pe_tup (pa_cons pe_str (pa_cons pe_str pa_nil))) (pa_cons (pe_tup (pa_cons pe_str (pa_cons pe_int pa_nil))) pa_nil))))) (pa_cons (pv 2) (pa_cons (C8.pe_c c_law_detour hr (by omega) rfl (pa_cons (pv 0) (pa_cons (pv 1) (pa_cons (pv 3) pa_nil)))) pa_nil)))))))), rr_sn (nm_nd (nd_asg (d := Sx.d (.call ag (.op false (.name .n) (.num 1)))) (by walk_at "ev"))) ?_⟩
  have dt : LE K H0 a (tCall (spW K RDt) [] C8.E0 (tCons (tVar 0) (tCons (tVar 1) (tCons (tVar 3) tNil)))) [some (.r a), some (Sx.d (.call ag (.op false (.name .n) (.num 1)))), some (Sx.d last), some (Ty.d A)] (fun d => ∃ e', (e' = (.call ag (.op false (.name .n) (.num 1))) ∨ e' = .as (.call ag (.op false (.name .n) (.num 1))) A) ∧ d = Sx.d (.as (.as e' .any) A)) :=
    le_call rfl (les_cons (le_ed (ed_var rfl)) (les_cons (le_ed (ed_var rfl)) les_nil)) fun l h => by
      obtain ⟨_, _, rfl, ⟨_, _, rfl, rfl, rfl⟩, rfl⟩ := h
      exact ⟨_, ⟨_, _, rfl, rfl⟩, fun d z => z⟩
  refine lr_ret (le_wk (le_tup (les_cons (le_ed ed_s) (les_cons (le_ed (d := Sx.d (.op true (.name .n) (.num 1))) (by walk_at "ev")) (les_cons (le_ed (ed_var rfl)) (les_cons dt les_nil)))) fun l h => ?_) fun d h => ?_)
  · obtain ⟨_, _, _, ⟨_, _, _, ⟨_, _, _, ⟨_, _, _, rfl, rfl⟩, rfl⟩, rfl⟩, rfl⟩ := h
    exact Nat.le_of_ble_eq_true rfl
  · obtain ⟨l, ⟨_, _, rfl, ⟨_, _, rfl, ⟨_, _, rfl, ⟨_, _, ⟨e', he, rfl⟩, rfl, rfl⟩, rfl⟩, rfl⟩, rfl⟩, rfl⟩ := h
    rcases he with rfl | rfl
    · exact ⟨false, rfl⟩
    · exact ⟨true, rfl⟩
/-- the loop of one function -/
def loop1 (A N : Ty) (last : Sx) (f : Bool) : Sx := .rc .h .n .int N (bodyX (.name .h) last A f)
/-- the loop of two functions -/
def loop2 (A N : Ty) (last : Sx) (f g : Bool) : Sx :=
  .lt .b (.bx (.as (.fn .n .int last) (.fn .int N))) (.lt .o (.fn .n .int (bodyX (.get (.name .b)) last A f)) (.lt .s (.put (.name .b) (.fn .n .int (bodyX (.name .o) last A g))) (.name .o)))
def IsLoop (A : Ty) (last e : Sx) : Prop := ∃ N, le N A ∧ ((∃ f, e = loop1 A N last f) ∨ ∃ f g, e = loop2 A N last f g)
def RLp : List D → (D → Prop) → Prop := fun l P => ∃ A last, l = [Ty.d A, Sx.d last] ∧ ht A ≤ 2 ∧ P = fun d => ∃ e, IsLoop A last e ∧ d = Sx.d e
end
end Hn
end

/- HnW22 -/
section
set_option Elab.async false
set_option linter.all false
set_option maxRecDepth 100000
set_option maxHeartbeats 4000000
namespace Hn
open PySem PySem.Spec PyProof.Rows L2 Evl
local macro_rules | `(tactic| walk_at "ev") => `(tactic| first
  | ((with_reducible show ED _ (tVar _) _ _); exact ed_var rfl)
  | ((with_reducible show ED _ (tC _) _ _); first | exact ed_s | exact ed_i | exact ed_b | exact ed_n | exact ed_c (by assumption))
  | ((with_reducible show ED _ (tOp (rIxT _) _ (tC (V.int 0))) _ _); refine' ed_ix0 ?k1 ?k2; (case k1 => walk_at "ev"); (case k2 => rfl))
  | ((with_reducible show ED _ (tOp (rIxT _) _ (tC (V.int 1))) _ _); refine' ed_ix1 ?k1 ?k2; (case k1 => walk_at "ev"); (case k2 => rfl))
  | ((with_reducible show ED _ (tOp (rIxT _) _ (tC (V.int 2))) _ _); refine' ed_ix2 ?k1 ?k2; (case k1 => walk_at "ev"); (case k2 => rfl))
  | ((with_reducible show ED _ (tOp (rIxT _) _ (tC (V.int 3))) _ _); refine' ed_ix3 ?k1 ?k2; (case k1 => walk_at "ev"); (case k2 => rfl))
  | ((with_reducible show ED _ (tOp (rIxT _) _ (tC (V.int 4))) _ _); refine' ed_ix4 ?k1 ?k2; (case k1 => walk_at "ev"); (case k2 => rfl))
  | ((with_reducible show ED _ (tOp (rIxT _) _ (tC (V.int 5))) _ _); refine' ed_ix5 ?k1 ?k2; (case k1 => walk_at "ev"); (case k2 => rfl))
  | ((with_reducible show ED _ (tOp (rIxT _) _ (tVar _)) _ _); first
    | (refine' ed_ixE (j := 1) ?k1 ?k2 ?k3 ?k4; (case k1 => walk_at "ev"); (case k2 => walk_at "ev"); (case k3 => rfl); (case k4 => first | rfl | decide))
    | (refine' ed_ixE (j := 2) ?k1 ?k2 ?k3 ?k4; (case k1 => walk_at "ev"); (case k2 => walk_at "ev"); (case k3 => rfl); (case k4 => first | rfl | decide)))
  | ((with_reducible show ED _ (tCB _ (tCons _ tNil)) _ _); refine' ed_len ?k1 ?k2; (case k1 => walk_at "ev"); (case k2 => rfl))
  | ((with_reducible show ED _ (tTup _) _ _); refine' ed_tup ?k1 ?k2; (case k1 => walk_at "es"); (case k2 => exact Nat.le_of_ble_eq_true rfl))
  | ((with_reducible show ED _ (tCall _ _ _ _) _ _); refine' ed_call ?k1 ?k2; (case k1 => walk_at "es"); (case k2 => walk_at "cl"))
  | ((with_reducible show ED _ (tCallN _ _ _ _ _ _ _) _ _); refine' ed_callK ?k1 ?k2 ?k3 ?k4 ?k5; (case k1 => walk_at "es"); (case k2 => walk_at "es"); (case k3 => walk_at "cl"); (case k4 => rfl); (case k5 => rfl))
  | ((with_reducible show ED _ (tOp (rI0 _) _ _) _ _); first
    | (refine' ed_add ?k1 ?k2; (case k1 => walk_at "ev"); (case k2 => walk_at "ev"))
    | (refine' ed_sub ?k1 ?k2; (case k1 => walk_at "ev"); (case k2 => walk_at "ev"))
    | (refine' ed_lt ?k1 ?k2; (case k1 => walk_at "ev"); (case k2 => walk_at "ev"))))
local macro_rules | `(tactic| walk_at "es") => `(tactic| first
  | ((with_reducible show EDs _ tNil _ _); exact es_nil)
  | ((with_reducible show EDs _ (tCons _ _) _ _); refine' es_cons ?k1 ?k2; (case k1 => walk_at "ev"); (case k2 => walk_at "es")))
local macro_rules | `(tactic| walk_at "eb") => `(tactic| first
  | ((with_reducible show EB _ (tTest (tOp rEq _ _)) _ _); refine' eb_eqS ?k1 ?k2 ?k3; (case k1 => walk_at "ev"); (case k2 => walk_at "ev"); (case k3 => first | decide +kernel | assumption))
  | ((with_reducible show EB _ (tTest (tOp rNe _ _)) _ _); refine' eb_neS ?k1 ?k2 ?k3; (case k1 => walk_at "ev"); (case k2 => walk_at "ev"); (case k3 => first | decide +kernel | assumption))
  | ((with_reducible show EB _ (tTest (tOp (rEqD _) _ _)) _ _); first
    | (refine' eb_ck ?k1 ?k2 ?k3 ?k4; (case k1 => walk_at "ev"); (case k2 => walk_at "ev"); (case k3 => first | rfl | decide +kernel | assumption); (case k4 => first | assumption | decide +kernel | omega))
    | (refine' eb_tyA ?k1 ?k2 ?k3 ?k4; (case k1 => walk_at "ev"); (case k2 => walk_at "ev"); (case k3 => first | rfl | decide +kernel | assumption); (case k4 => first | assumption | decide +kernel | omega))
    | (refine' eb_ty ?k1 ?k2 ?k3 ?k4 ?k5; (case k1 => walk_at "ev"); (case k2 => walk_at "ev"); (case k3 => first | assumption | rfl); (case k4 => first | assumption | decide +kernel | omega); (case k5 => first | assumption | decide +kernel | omega)))
  | ((with_reducible show EB _ (tTest (tOp (rIn _ _) _ _)) _ _); refine' eb_in ?k1 ?k2 ?k3; (case k1 => walk_at "ev"); (case k2 => walk_at "ev"); (case k3 => decide +kernel))
  | ((with_reducible show EB _ (tOr _ _) _ _); first
    | (refine' eb_or (b := true) ?k1 ?k2 ?k3; (case k1 => walk_at "eb"); (case k2 => intro z; cases z); (case k3 => intro _; rfl))
    | (refine' eb_or (b := false) ?k1 ?k2 ?k3; (case k1 => walk_at "eb"); (case k2 => intro _; walk_at "eb"); (case k3 => intro z; cases z)))
  | ((with_reducible show EB _ (tAnd _ _) _ _); first
    | (refine' eb_and (b := false) ?k1 ?k2 ?k3; (case k1 => walk_at "eb"); (case k2 => intro z; cases z); (case k3 => intro _; rfl))
    | (refine' eb_and (b := true) ?k1 ?k2 ?k3; (case k1 => walk_at "eb"); (case k2 => intro _; walk_at "eb"); (case k3 => intro z; cases z)))
  | ((with_reducible show EB _ (tNot _) _ _); first | (refine' eb_not (b := true) ?k1 rfl; (case k1 => walk_at "eb")) | (refine' eb_not (b := false) ?k1 rfl; (case k1 => walk_at "eb")))
  | ((with_reducible show EB _ (tB _) _ _); refine' eb_val ?k1; (case k1 => walk_at "ev")))
local macro_rules | `(tactic| walk_at "rd") => `(tactic| first
  | ((with_reducible show RD _ (tRet _) _ _); refine' rd_ret ?k1; (case k1 => walk_at "ev"))
  | ((with_reducible show RD _ (tSeq (tIfS _ _ tNext) _) _ _); (first
    | ((with_reducible refine' rd_skip ?k1 ?k2); (case k1 => walk_at "eb"))
    | ((with_reducible refine' rd_take ?k1 ?k2); (case k1 => walk_at "eb"))); (walk_at "rd"))
  | ((with_reducible show RD _ (tIfS _ _ _) _ _); (first
    | ((with_reducible refine' rd_yes ?k1 ?k2); (case k1 => walk_at "eb"))
    | ((with_reducible refine' rd_no ?k1 ?k2); (case k1 => walk_at "eb"))); (walk_at "rd"))
  | ((with_reducible show RD _ (tSeq _ _) _ _); (with_reducible refine' rd_sn ?k1 ?k2); (case k1 => walk_at "nd"); (case k2 => walk_at "rd")))
local macro_rules | `(tactic| walk_at "nd") => `(tactic| first
  | ((with_reducible show ND _ tNext _ _); exact nd_next)
  | ((with_reducible show ND _ (tAsg _ _) _ _); refine' nd_asg ?k1; (case k1 => walk_at "ev"))
  | ((with_reducible show ND _ (tIfS _ _ _) _ _); (first
    | ((with_reducible refine' nd_yes ?k1 ?k2); (case k1 => walk_at "eb"))
    | ((with_reducible refine' nd_no ?k1 ?k2); (case k1 => walk_at "eb"))); (walk_at "nd"))
  | ((with_reducible show ND _ (tSeq _ _) _ _); (with_reducible refine' nd_sn ?k1 ?k2); (case k1 => walk_at "nd"); (case k2 => walk_at "nd")))
local macro_rules | `(tactic| walk_at "cl") => `(tactic| first | assumption | skip)
local macro_rules | `(tactic| walk_at "gv") => `(tactic| first
  | (refine' em_ed ?k1; (case k1 => walk_at "ev"))
  | ((with_reducible show GE _ _ (tFld _ _ _) _ _ _); first
    | (refine' ge_known ?kT ?k1 ?k2; (case kT => assumption); (case k1 => walk_at "gv"); (case k2 => assumption))
    | (refine' ge_core ?kT ?k1 ?k2; (case kT => assumption); (case k1 => walk_at "gv"); (case k2 => assumption))
    | (refine' ge_num ?kT ?k1 ?k2; (case kT => assumption); (case k1 => walk_at "gv"); (case k2 => assumption)))
  | ((with_reducible show GE _ _ (tOp (rIxL _) _ (tC (V.int 0))) _ _ _); refine' ge_ixL0 ?k1 ?k2 ?k3; (case k1 => walk_at "gv"); (case k2 => assumption); (case k3 => rfl))
  | ((with_reducible show GE _ _ (tOp (rIxL _) _ (tC (V.int 1))) _ _ _); refine' ge_ixL1 ?k1 ?k2 ?k3; (case k1 => walk_at "gv"); (case k2 => assumption); (case k3 => rfl))
  | ((with_reducible show GE _ _ (tOp (rIxL _) _ (tC (V.int 2))) _ _ _); refine' ge_ixL2 ?k1 ?k2 ?k3; (case k1 => walk_at "gv"); (case k2 => assumption); (case k3 => rfl))
  | ((with_reducible show GE _ _ (tOp (rIxT _) _ (tC (V.int 0))) _ _ _); refine' ge_ix0 ?k1 ?k2; (case k1 => walk_at "gv"); (case k2 => rfl))
  | ((with_reducible show GE _ _ (tOp (rIxT _) _ (tC (V.int 1))) _ _ _); refine' ge_ix1 ?k1 ?k2; (case k1 => walk_at "gv"); (case k2 => rfl))
  | ((with_reducible show GE _ _ (tOp (rIxT _) _ (tC (V.int 2))) _ _ _); refine' ge_ix2 ?k1 ?k2; (case k1 => walk_at "gv"); (case k2 => rfl))
  | ((with_reducible show GE _ _ (tTup _) _ _ _); refine' em_tup ?k1 ?k2; (case k1 => walk_at "gs"); (case k2 => exact Nat.le_of_ble_eq_true rfl))
  | ((with_reducible show GE _ _ (tMeth _ _ _ _ _ _ _) _ _ _); refine' ge_fit ?k1 ?k2 ?k3 ?k4; (case k1 => walk_at "gv"); (case k2 => assumption); (case k3 => walk_at "gs"); (case k4 => walk_at "cl"))
  | ((with_reducible show GE _ _ (tCall (spQ _ _) _ _ _) _ _ _); refine' ge_q ?k1 ?k2; (case k1 => walk_at "gs"); (case k2 => walk_at "cl"))
  | ((with_reducible show GE _ _ (tCall (spD _ _) _ _ _) _ _ _); refine' em_call ?k1 ?k2; (case k1 => walk_at "gs"); (case k2 => walk_at "cl")))
local macro_rules | `(tactic| walk_at "gs") => `(tactic| first
  | ((with_reducible show GEs _ _ tNil _ _ _ _); exact ems_nil)
  | ((with_reducible show GEs _ _ (tCons _ _) _ _ _ _); refine' ems_cons ?k1 ?k2; (case k1 => walk_at "gv"); (case k2 => walk_at "gs")))
local macro_rules | `(tactic| walk_at "gb") => `(tactic| first
  | (refine' bm_eb ?k1; (case k1 => walk_at "eb"))
  | ((with_reducible show GB _ _ (tTest (tOp (rEqD _) _ _)) _ _ _ _); first
    | (refine' gb_tyA ?k1 ?k2 ?k3 ?k4; (case k1 => walk_at "gv"); (case k2 => walk_at "gv"); (case k3 => first | rfl | decide +kernel | assumption); (case k4 => first | assumption | decide +kernel | omega))
    | (refine' gb_ty ?k1 ?k2 ?k3 ?k4 ?k5; (case k1 => walk_at "gv"); (case k2 => walk_at "gv"); (case k3 => first | assumption | rfl); (case k4 => first | assumption | decide +kernel | omega); (case k5 => first | assumption | decide +kernel | omega)))
  | ((with_reducible show GB _ _ (tTest (tOp rNe _ _)) _ _ _ _); refine' gb_neS ?k1 ?k2 ?k3; (case k1 => walk_at "gv"); (case k2 => walk_at "gv"); (case k3 => first | decide +kernel | assumption))
  | ((with_reducible show GB _ _ (tNot _) _ _ _ _); first | (refine' bm_not (b := true) ?k1 rfl; (case k1 => walk_at "gb")) | (refine' bm_not (b := false) ?k1 rfl; (case k1 => walk_at "gb")))
  | ((with_reducible show GB _ _ (tB _) _ _ _ _); refine' gb_val ?k1; (case k1 => walk_at "gv")))
local macro_rules | `(tactic| walk_at "gr") => `(tactic| first
  | ((with_reducible show GR _ _ (tRet _) _ _ _); refine' rr_ret ?k1; (case k1 => walk_at "gv"))
  | ((with_reducible show GR _ _ (tSeq (tIfS _ _ tNext) _) _ _ _); (first
    | ((with_reducible refine' rr_skip ?k1 ?k2); (case k1 => walk_at "gb"))
    | ((with_reducible refine' rr_take ?k1 ?k2); (case k1 => walk_at "gb"))); (walk_at "gr"))
  | ((with_reducible show GR _ _ (tSeq _ _) _ _ _); (with_reducible refine' rr_sn ?k1 ?k2); (case k1 => walk_at "gn"); (case k2 => walk_at "gr")))
local macro_rules | `(tactic| walk_at "gn") => `(tactic| first
  | ((with_reducible show GN _ _ tNext _ _ _ _); exact nm_next)
  | ((with_reducible show GN _ _ (tAsg _ (gName _)) _ _ _ _); refine' nm_asg ?k1; (case k1 => walk_at "gv"))
  | ((with_reducible show GN _ _ (tAsg _ _) _ _ _ _); refine' gn_up2 ?k1; (case k1 => walk_at "gv"))
  | ((with_reducible show GN _ _ (tIfS _ _ _) _ _ _ _); (first
    | ((with_reducible refine' nm_yes ?k1 ?k2); (case k1 => walk_at "gb"))
    | ((with_reducible refine' nm_no ?k1 ?k2); (case k1 => walk_at "gb"))); (walk_at "gn"))
  | ((with_reducible show GN _ _ (tSeq _ _) _ _ _ _); (with_reducible refine' nm_sn ?k1 ?k2); (case k1 => walk_at "gn"); (case k2 => walk_at "gn")))
theorem lr_asgIf1 {K : PySem.W.Frag} {H0 : Hp} {a : Addr} {te : TE} {tt : TT} {u : TS} {ds : Lo} {P P2 : D → Prop} {i : Nat} {d0 : D} (h : LT K H0 a tt ds) (h1 : LE K H0 a te ds P2) (he : ds.set i (some d0) = ds) (hp : P2 d0) (hu : ∀ d, P2 d → LR K H0 a u (ds.set i (some d)) P) : LR K H0 a (tSeq (tIfS tt (tAsg te (gName i)) tNext) u) ds P :=
  lr_asgIf h h1 hu (by have z := hu d0 hp; rw [he] at z; exact z)
section
variable {P : Program} {w : World} {K : PySem.W.Frag} {mg : Str → Option Value} {base : Heap}
theorem bdE {H0 : Hp} {a : Addr} {ds : Lo} {ag last : Sx} {A : Ty} {te tl tw : TE} (hi : ds[0]? = some (some (.r a))) (h1 : ED K te ds (Sx.d ag)) (h2 : ED K tl ds (Sx.d last)) (h3 : ED K tw ds (Ty.d A)) : LE K H0 a (tCall (spW K RBd) [] C8.E0 (tCons (tVar 0) (tCons te (tCons tl (tCons tw tNil))))) ds (fun d => ∃ f, d = Sx.d (bodyX ag last A f)) :=
  le_call hi (les_cons (le_ed h1) (les_cons (le_ed h2) (les_cons (le_ed h3) les_nil))) fun l h => by
    obtain ⟨_, _, rfl, ⟨_, _, rfl, ⟨_, _, rfl, rfl, rfl⟩, rfl⟩, rfl⟩ := h
    exact ⟨_, ⟨_, _, _, rfl, rfl⟩, fun d z => z⟩
theorem ok_loop (T : Tx w K mg) : C8.Cal P w K mg base 8 "_law_loop" (spW K RLp) [] := by
  have c_law_take := ok_take (P := P) (base := base) T
  have c_law_body := ok_body (P := P) (base := base) T
  have c_law_looser : C8.Cal P w K mg base 5 "_law_looser" (spW K (RLo 3)) [] := ok_looser (P := P) (base := base) T 3
  refine mk_law_loop T fun fd F => ok_w F sc_law_loop (fun l Po h => by obtain ⟨e, A, rfl, _⟩ := h; rfl) fun cdv A outer s H E H0 a l Po hr h => ?_
  obtain ⟨A, last, rfl, hA, rfl⟩ := h
  refine ⟨_, (pss_cons (ps_set (i := 3) sc_law_loop.nd rfl (Or.inl rfl) (pv 1))
  (pss_cons (ps_if (pt_cmpR op_eq (C8.pe_c c_law_take hr (by omega) rfl (pa_cons (pv 0) (pa_cons pe_int pa_nil))) pe_int (nomark _)) (pss_one (ps_set (i := 3) sc_law_loop.nd rfl (Or.inl rfl) (C8.pe_c c_law_looser hr (by omega) rfl (pa_cons (pv 0) (pa_cons (pv 1) pa_nil))))) pss_nil)
  (pss_cons (ps_if (pt_cmpR op_eq (C8.pe_c c_law_take hr (by omega) rfl (pa_cons (pv 0) (pa_cons pe_int pa_nil))) pe_int (nomark _)) (pss_one (ps_ret (pe_tup (pa_cons pe_str (pa_cons pe_str (pa_cons pe_str (pa_cons (pe_tup (pa_cons pe_str pa_nil)) (pa_cons (pv 3) (pa_cons (C8.pe_c c_law_body hr (by omega) rfl (pa_cons (pv 0) (pa_cons (pe_tup (pa_cons pe_str (pa_cons pe_str pa_nil))) (pa_cons (pv 2) (pa_cons (pv 1) pa_nil))))) pa_nil))))))))) pss_nil)
  (pss_cons (ps_set (i := 4) sc_law_loop.nd rfl (Or.inl rfl) (pe_tup (pa_cons pe_str (pa_cons pe_str (pa_cons (pe_tup (pa_cons pe_str pa_nil)) (pa_cons (pv 2) pa_nil))))))
  (pss_cons (ps_set (i := 5) sc_law_loop.nd rfl (Or.inl rfl) (pe_tup (pa_cons pe_str (pa_cons pe_str (pa_cons (pe_tup (pa_cons pe_str pa_nil)) (pa_cons (C8.pe_c c_law_body hr (by omega) rfl (pa_cons (pv 0) (pa_cons (pe_tup (pa_cons pe_str (pa_cons (pe_tup (pa_cons pe_str (pa_cons pe_str pa_nil))) pa_nil))) (pa_cons (pv 2) (pa_cons (pv 1) pa_nil))))) pa_nil))))))
  (pss_cons (ps_set (i := 6) sc_law_loop.nd rfl (Or.inl rfl) (pe_tup (pa_cons pe_str (pa_cons pe_str (pa_cons (pe_tup (pa_cons pe_str pa_nil)) (pa_cons (C8.pe_c c_law_body hr (by omega) rfl (pa_cons (pv 0) (pa_cons (pe_tup (pa_cons pe_str (pa_cons pe_str pa_nil))) (pa_cons (pv 2) (pa_cons (pv 1) pa_nil))))) pa_nil))))))
  (pss_cons (ps_set (i := 7) sc_law_loop.nd rfl (Or.inl rfl) (pe_tup (pa_cons pe_str (pa_cons pe_str (pa_cons (pe_tup (pa_cons pe_str (pa_cons (pe_tup (pa_cons pe_str (pa_cons pe_str pa_nil))) (pa_cons (pv 6) pa_nil)))) (pa_cons (pe_tup (pa_cons pe_str (pa_cons pe_str pa_nil))) pa_nil))))))
  (pss_one (ps_ret (pe_tup (pa_cons pe_str (pa_cons pe_str (pa_cons (pe_tup (pa_cons pe_str (pa_cons (pe_tup (pa_cons pe_str (pa_cons (pv 4) (pa_cons (pe_tup (pa_cons pe_str (pa_cons (pe_tup (pa_cons pe_str pa_nil)) (pa_cons (pv 3) pa_nil)))) pa_nil)))) pa_nil))) (pa_cons (pe_tup (pa_cons pe_str (pa_cons pe_str (pa_cons (pv 5) (pa_cons (pv 7) pa_nil))))) pa_nil)))))))))))))), rr_sn (nm_nd (nd_asg (ed_var rfl))) ?_⟩
  refine lr_asgIf1 (P2 := fun d => ∃ N, le N A ∧ d = Ty.d N) (d0 := Ty.d A) (lt_eqI (tk rfl (by decide) (by decide)) tkI) (le_call rfl (les_cons (le_ed (d := Ty.d A) (ed_var rfl)) les_nil) fun l h => ?_) rfl ⟨A, le_rfl' A, rfl⟩ (fun d hd => ?_)
  · obtain ⟨_, _, rfl, rfl, rfl⟩ := h
    exact ⟨_, ⟨A, rfl, by omega, rfl⟩, fun d z => z⟩
  · obtain ⟨N, hN, rfl⟩ := hd
    refine lr_either (lt_eqI (tk rfl (by decide) (by decide)) tkI) ?_ ?_
    · have b1 := bdE (K := K) (H0 := H0) (a := a) (ds := [some (.r a), some (Ty.d A), some (Sx.d last), some (Ty.d N), none, none, none, none]) (ag := .name .h) (last := last) (A := A) (te := tTup (tCons (tC (.str "name")) (tCons (tC (.str "h")) tNil))) (tl := tVar 2) (tw := tVar 1) rfl (by walk_at "ev") (ed_var rfl) (ed_var rfl)
      refine lr_ret (le_wk (le_tup (les_cons (le_ed ed_s) (les_cons (le_ed ed_s) (les_cons (le_ed ed_s) (les_cons (le_ed (d := Ty.d .int) (by walk_at "ev")) (les_cons (le_ed (ed_var rfl)) (les_cons b1 les_nil)))))) fun l h => ?_) fun d h => ?_)
      · obtain ⟨_, _, _, ⟨_, _, _, ⟨_, _, _, ⟨_, _, _, ⟨_, _, _, ⟨_, _, _, rfl, rfl⟩, rfl⟩, rfl⟩, rfl⟩, rfl⟩, rfl⟩ := h
        exact Nat.le_of_ble_eq_true rfl
      · obtain ⟨l, ⟨_, _, rfl, ⟨_, _, rfl, ⟨_, _, rfl, ⟨_, _, rfl, ⟨_, _, rfl, ⟨_, _, ⟨f, rfl⟩, rfl, rfl⟩, rfl⟩, rfl⟩, rfl⟩, rfl⟩, rfl⟩, rfl⟩ := h
        exact ⟨loop1 A N last f, ⟨N, hN, .inl ⟨f, rfl⟩⟩, rfl⟩
    · refine rr_sn (nm_nd (nd_asg (d := Sx.d (.fn .n .int last)) (by walk_at "ev"))) ?_
      have b1 := bdE (K := K) (H0 := H0) (a := a) (ds := [some (.r a), some (Ty.d A), some (Sx.d last), some (Ty.d N), some (Sx.d (.fn .n .int last)), none, none, none]) (ag := .get (.name .b)) (last := last) (A := A) (te := tTup (tCons (tC (.str "get")) (tCons (tTup (tCons (tC (.str "name")) (tCons (tC (.str "b")) tNil))) tNil))) (tl := tVar 2) (tw := tVar 1) rfl (by walk_at "ev") (ed_var rfl) (ed_var rfl)
      refine lr_asg (P2 := fun d => ∃ f, d = Sx.d (.fn .n .int (bodyX (.get (.name .b)) last A f))) (le_wk (le_tup (les_cons (le_ed ed_s) (les_cons (le_ed ed_s) (les_cons (le_ed (d := Ty.d .int) (by walk_at "ev")) (les_cons b1 les_nil)))) fun l h => ?_) fun d h => ?_) fun d hd => ?_
      · obtain ⟨_, _, _, ⟨_, _, _, ⟨_, _, _, ⟨_, _, _, rfl, rfl⟩, rfl⟩, rfl⟩, rfl⟩ := h
        exact Nat.le_of_ble_eq_true rfl
      · obtain ⟨l, ⟨_, _, rfl, ⟨_, _, rfl, ⟨_, _, rfl, ⟨_, _, ⟨f, rfl⟩, rfl, rfl⟩, rfl⟩, rfl⟩, rfl⟩, rfl⟩ := h
        exact ⟨f, rfl⟩
      obtain ⟨f, rfl⟩ := hd
      have b2 := bdE (K := K) (H0 := H0) (a := a) (ds := [some (.r a), some (Ty.d A), some (Sx.d last), some (Ty.d N), some (Sx.d (.fn .n .int last)), some (Sx.d (.fn .n .int (bodyX (.get (.name .b)) last A f))), none, none]) (ag := .name .o) (last := last) (A := A) (te := tTup (tCons (tC (.str "name")) (tCons (tC (.str "o")) tNil))) (tl := tVar 2) (tw := tVar 1) rfl (by walk_at "ev") (ed_var rfl) (ed_var rfl)
      refine lr_asg (P2 := fun d => ∃ g, d = Sx.d (.fn .n .int (bodyX (.name .o) last A g))) (le_wk (le_tup (les_cons (le_ed ed_s) (les_cons (le_ed ed_s) (les_cons (le_ed (d := Ty.d .int) (by walk_at "ev")) (les_cons b2 les_nil)))) fun l h => ?_) fun d h => ?_) fun d hd => ?_
      · obtain ⟨_, _, _, ⟨_, _, _, ⟨_, _, _, ⟨_, _, _, rfl, rfl⟩, rfl⟩, rfl⟩, rfl⟩ := h
        exact Nat.le_of_ble_eq_true rfl
      · obtain ⟨l, ⟨_, _, rfl, ⟨_, _, rfl, ⟨_, _, rfl, ⟨_, _, ⟨f, rfl⟩, rfl, rfl⟩, rfl⟩, rfl⟩, rfl⟩, rfl⟩ := h
        exact ⟨f, rfl⟩
      obtain ⟨g, rfl⟩ := hd
      refine rr_sn (nm_nd (nd_asg (d := Sx.d (.lt .s (.put (.name .b) (.fn .n .int (bodyX (.name .o) last A g))) (.name .o))) (by walk_at "ev"))) ?_
      exact lr_rd (d := Sx.d (loop2 A N last f g)) (rd_ret (by walk_at "ev")) ⟨loop2 A N last f g, ⟨N, hN, .inr ⟨f, g, rfl⟩⟩, rfl⟩
/-! ### the constant -/
def zN : Nat → Nm
  | 0 => .z0 | 1 => .z1 | _ => .z2
theorem ed_zn {ds : Lo} {te : TE} {n : Nat} (h : ED K te ds (.i (n : Int))) (hn : n ≤ 2) : ED K (tOp (fun x y H Q => ∃ i j, x = .str i ∧ y = .str j ∧ i.length + j.length ≤ sizeLine ∧ Q (.str (i ++ j)) H) (tC (.str "z")) (tCB (fun xs H Q => ∃ i, xs = [.int i] ∧ i.natAbs.log2 < 1920 ∧ Q (.str (toString i)) H) (tCons te tNil))) ds (.s (zN n).str) := fun σ H L Q q =>
  h σ H L _ fun v H' e r => by
    have r' : v = .int n := r
    subst r'
    match n, hn with
    | 0, _ => exact ⟨_, rfl, by decide +kernel, _, _, rfl, rfl, by decide +kernel, q _ _ e (by show V.str _ = V.str _; exact congrArg V.str (by decide +kernel))⟩
    | 1, _ => exact ⟨_, rfl, by decide +kernel, _, _, rfl, rfl, by decide +kernel, q _ _ e (by show V.str _ = V.str _; exact congrArg V.str (by decide +kernel))⟩
    | 2, _ => exact ⟨_, rfl, by decide +kernel, _, _, rfl, rfl, by decide +kernel, q _ _ e (by show V.str _ = V.str _; exact congrArg V.str (by decide +kernel))⟩
def RKo (n : Nat) : List D → (D → Prop) → Prop := fun l P => ∃ A, ∃ m : Nat, l = [Ty.d A, .i (m : Int)] ∧ ht A < n ∧ m + ht A ≤ 2 ∧ P = fun d => ∃ e, IsC A e ∧ d = Sx.d e
theorem ok_const_step (T : Tx w K mg) {n k : Nat} (hk : 1 ≤ k) (c_law_constant : C8.Cal P w K mg base k "_law_constant" (spW K (RKo n)) []) : C8.Cal P w K mg base (k + 1) "_law_constant" (spW K (RKo (n + 1))) [] := by
  have c_law_take := ok_take (P := P) (base := base) T
  refine mk_law_constant T fun fd F => ok_w F sc_law_constant (fun l Po h => by obtain ⟨A, m, rfl, _⟩ := h; rfl) fun cdv A outer s H E H0 a l Po hr h => ?_
  obtain ⟨A, m, rfl, hA, hm, rfl⟩ := h
  refine ⟨_, (pss_cons (ps_if (pt_cmpR op_eq (pe_ix ix_tup (pv 1) pe_int (fun _ _ => rfl)) pe_str (nomark _)) (pss_one (ps_ret (pe_tup (pa_cons pe_str (pa_cons (pe_op op_add_str pe_str (pe_callTy call_str_int (by rfl) (fr_str T) (by decide +kernel) (pa_cons (pv 2) pa_nil))) (pa_cons (pe_ix ix_tup (pv 1) pe_int (fun _ _ => rfl)) (pa_cons (C8.pe_c c_law_constant hr (by omega) rfl (pa_cons (pv 0) (pa_cons (pe_ix ix_tup (pv 1) pe_int (fun _ _ => rfl)) (pa_cons (pe_op op_add (pv 2) pe_int) pa_nil)))) pa_nil))))))) pss_nil)
  (pss_cons (ps_if (pt_cmpR op_eq (pe_ix ix_tup (pv 1) pe_int (fun _ _ => rfl)) pe_str (nomark _)) (pss_one (ps_ret (pe_tup (pa_cons pe_str (pa_cons (C8.pe_c c_law_constant hr (by omega) rfl (pa_cons (pv 0) (pa_cons (pe_ix ix_tup (pv 1) pe_int (fun _ _ => rfl)) (pa_cons (pv 2) pa_nil)))) (pa_cons (C8.pe_c c_law_constant hr (by omega) rfl (pa_cons (pv 0) (pa_cons (pe_ix ix_tup (pv 1) pe_int (fun _ _ => rfl)) (pa_cons (pv 2) pa_nil)))) pa_nil)))))) pss_nil)
  (pss_cons (ps_if (pt_cmpR op_eq (pe_ix ix_tup (pv 1) pe_int (fun _ _ => rfl)) pe_str (nomark _)) (pss_one (ps_ret (pe_tup (pa_cons pe_str (pa_cons (C8.pe_c c_law_constant hr (by omega) rfl (pa_cons (pv 0) (pa_cons (pe_ix ix_tup (pv 1) pe_int (fun _ _ => rfl)) (pa_cons (pv 2) pa_nil)))) pa_nil))))) pss_nil)
  (pss_cons (ps_if (pt_cmpR op_eq (pe_ix ix_tup (pv 1) pe_int (fun _ _ => rfl)) pe_str (nomark _)) (pss_one (ps_ret (pe_tup (pa_cons pe_str (pa_cons (pe_tup (pa_cons pe_str (pa_cons pe_bl pa_nil))) (pa_cons (pe_tup (pa_cons pe_str pa_nil)) pa_nil)))))) pss_nil)
  (pss_cons (ps_if (pt_cmpR op_eq (pe_ix ix_tup (pv 1) pe_int (fun _ _ => rfl)) pe_str (nomark _)) (pss_one (ps_ret (pe_tup (pa_cons pe_str pa_nil)))) pss_nil)
  (pss_cons (ps_if (pt_cmpR op_eq (pe_ix ix_tup (pv 1) pe_int (fun _ _ => rfl)) pe_str (nomark _)) (pss_one (ps_ret (pe_tup (pa_cons pe_str (pa_cons pe_bl pa_nil))))) pss_nil)
  (pss_one (ps_ret (pe_tup (pa_cons pe_str (pa_cons (C8.pe_c c_law_take hr (by omega) rfl (pa_cons (pv 0) (pa_cons pe_int pa_nil))) pa_nil))))))))))), ?_⟩
  have sub : ∀ (j : Nat) (y : Int) (B : Ty) (m' : Nat) (te : TE), ED K te [some (.r a), some (Ty.d A), some (.i (m : Int))] (.i (m' : Int)) → (y = (j : Int)) → (∃ l, Ty.d A = .t l ∧ l[j]? = some (Ty.d B)) → ht B < n → m' + ht B ≤ 2 → LE K H0 a (tCall (spW K (RKo n)) [] C8.E0 (tCons (tVar 0) (tCons (tOp (rIxT K) (tVar 1) (tC (.int y))) (tCons te tNil)))) [some (.r a), some (Ty.d A), some (.i (m : Int))] (fun d => ∃ e, IsC B e ∧ d = Sx.d e) := fun j y B m' te hte hy hB hn hm' =>
    le_call rfl (les_cons (le_ed (by obtain ⟨l, h1, h2⟩ := hB; exact ed_ix (l := l) (ed_var (by rw [h1] <;> rfl)) h2 hy)) (les_cons (le_ed hte) les_nil)) fun l h => by
      obtain ⟨_, _, rfl, ⟨_, _, rfl, rfl, rfl⟩, rfl⟩ := h
      exact ⟨_, ⟨B, m', rfl, hn, hm', rfl⟩, fun d z => z⟩
  cases A with
  | any => exact lr_rd (d := Sx.d (.as (.flag true) .any)) (by walk_at "rd") ⟨_, .any, rfl⟩
  | int =>
    refine lr_no (by walk_at "eb") (lr_no (by walk_at "eb") (lr_no (by walk_at "eb") (lr_no (by walk_at "eb") (lr_no (by walk_at "eb") (lr_no (by walk_at "eb") (lr_ret (le_wk (le_tup (les_cons (le_ed ed_s) (les_cons (tk rfl (by decide) (by decide)) les_nil)) fun l h => ?_) fun d h => ?_)))))))
    · obtain ⟨_, _, _, ⟨_, _, _, rfl, rfl⟩, rfl⟩ := h
      exact Nat.le_of_ble_eq_true rfl
    · obtain ⟨l, ⟨_, _, rfl, ⟨_, _, ⟨r, r0, r1, rfl⟩, rfl, rfl⟩, rfl⟩, rfl⟩ := h
      exact ⟨.num r, .int r r0 r1, rfl⟩
  | bool => exact lr_rd (d := Sx.d (.flag false)) (by walk_at "rd") ⟨_, .bool, rfl⟩
  | unit => exact lr_rd (d := Sx.d .unit) (by walk_at "rd") ⟨_, .unit, rfl⟩
  | fn X Y =>
    have hz : max (ht X) (ht Y) + 1 < n + 1 := hA
    have hm2 : m + (max (ht X) (ht Y) + 1) ≤ 2 := hm
    have hadd : ED K (tOp (rI0 fun i j => V.int (i + j)) (tVar 2) (tC (V.int 1))) [some (.r a), some (Ty.d (.fn X Y)), some (.i (m : Int))] (.i ((m + 1 : Nat) : Int)) := by
      rw [show ((m + 1 : Nat) : Int) = (m : Int) + 1 by omega]
      exact ed_add (ed_var rfl) ed_i
    refine lr_yes (by walk_at "eb") (lr_ret (le_wk (le_tup (les_cons (le_ed ed_s) (les_cons (le_ed (ed_zn (n := m) (ed_var rfl) (by omega))) (les_cons (le_ed (d := Ty.d X) (by walk_at "ev")) (les_cons (sub 2 2 Y (m + 1) _ hadd rfl ⟨_, rfl, rfl⟩ (by omega) (by omega)) les_nil)))) fun l h => ?_) fun d h => ?_))
    · obtain ⟨_, _, _, ⟨_, _, _, ⟨_, _, _, ⟨_, _, _, rfl, rfl⟩, rfl⟩, rfl⟩, rfl⟩ := h
      exact Nat.le_of_ble_eq_true rfl
    · obtain ⟨l, ⟨_, _, rfl, ⟨_, _, rfl, ⟨_, _, rfl, ⟨_, _, ⟨e, he, rfl⟩, rfl, rfl⟩, rfl⟩, rfl⟩, rfl⟩, rfl⟩ := h
      exact ⟨.fn (zN m) X e, .fn _ he, rfl⟩
  | pr X Y =>
    have hz : max (ht X) (ht Y) + 1 < n + 1 := hA
    have hm2 : m + (max (ht X) (ht Y) + 1) ≤ 2 := hm
    refine lr_no (by walk_at "eb") (lr_yes (by walk_at "eb") (lr_ret (le_wk (le_tup (les_cons (le_ed ed_s) (les_cons (sub 1 1 X m _ (ed_var rfl) rfl ⟨_, rfl, rfl⟩ (by omega) (by omega)) (les_cons (sub 2 2 Y m _ (ed_var rfl) rfl ⟨_, rfl, rfl⟩ (by omega) (by omega)) les_nil))) fun l h => ?_) fun d h => ?_)))
    · obtain ⟨_, _, _, ⟨_, _, _, ⟨_, _, _, rfl, rfl⟩, rfl⟩, rfl⟩ := h
      exact Nat.le_of_ble_eq_true rfl
    · obtain ⟨l, ⟨_, _, rfl, ⟨_, _, ⟨e, he, rfl⟩, ⟨_, _, ⟨f, hf, rfl⟩, rfl, rfl⟩, rfl⟩, rfl⟩, rfl⟩ := h
      exact ⟨.pr e f, .pr he hf, rfl⟩
  | bx X =>
    have hz : ht X + 1 < n + 1 := hA
    have hm2 : m + (ht X + 1) ≤ 2 := hm
    refine lr_no (by walk_at "eb") (lr_no (by walk_at "eb") (lr_yes (by walk_at "eb") (lr_ret (le_wk (le_tup (les_cons (le_ed ed_s) (les_cons (sub 1 1 X m _ (ed_var rfl) rfl ⟨_, rfl, rfl⟩ (by omega) (by omega)) les_nil)) fun l h => ?_) fun d h => ?_))))
    · obtain ⟨_, _, _, ⟨_, _, _, rfl, rfl⟩, rfl⟩ := h
      exact Nat.le_of_ble_eq_true rfl
    · obtain ⟨l, ⟨_, _, rfl, ⟨_, _, ⟨e, he, rfl⟩, rfl, rfl⟩, rfl⟩, rfl⟩ := h
      exact ⟨.bx e, .bx he, rfl⟩
theorem ok_const (T : Tx w K mg) : ∀ n : Nat, C8.Cal P w K mg base (n + 2) "_law_constant" (spW K (RKo n)) []
  | 0 => by
    refine mk_law_constant T fun fd F => ok_w F sc_law_constant (fun l Po h => by obtain ⟨A, m, rfl, _⟩ := h; rfl) fun cdv A outer s H E H0 a l Po hr h => ?_
    obtain ⟨A, m, rfl, hA, _⟩ := h
    omega
  | n + 1 => ok_const_step T (by omega) (ok_const T n)
/-! ### the shape that is due -/
def shW : Ty → Sx → D
  | .any, _ => .t [.s "bool", .b true]
  | .int, .num i => .t [.s "int", .i i]
  | .bool, _ => .t [.s "bool", .b false]
  | A, _ => .t [.s A.k]
def RSw : List D → D → Prop := fun l d => ∃ A e, l = [Ty.d A, Sx.d e] ∧ IsC A e ∧ d = shW A e
theorem ok_shapeW (T : Tx w K mg) : C8.Cal P w K mg base 1 "_law_shape" (spD K RSw) [] := by
  refine mk_law_shape T fun fd F => ok_data F sc_law_shape (fun l d h => by obtain ⟨A, e, rfl, _⟩ := h; rfl) fun cdv A outer s H E l d hr h => ?_
  obtain ⟨A, e, rfl, hc, rfl⟩ := h
  refine ⟨_, (pss_cons (ps_if (pt_cmpR op_eq (pe_ix ix_tup (pv 0) pe_int (fun _ _ => rfl)) pe_str (nomark _)) (pss_one (ps_ret (pe_tup (pa_cons pe_str (pa_cons pe_bl pa_nil))))) pss_nil)
  (pss_cons (ps_if (pt_cmpR op_eq (pe_ix ix_tup (pv 0) pe_int (fun _ _ => rfl)) pe_str (nomark _)) (pss_one (ps_ret (pe_tup (pa_cons pe_str (pa_cons (pe_ix ix_tup (pv 1) pe_int (fun _ _ => rfl)) pa_nil))))) pss_nil)
  (pss_cons (ps_if (pt_cmpR op_eq (pe_ix ix_tup (pv 0) pe_int (fun _ _ => rfl)) pe_str (nomark _)) (pss_one (ps_ret (pe_tup (pa_cons pe_str (pa_cons pe_bl pa_nil))))) pss_nil)
  (pss_one (ps_ret (pe_tup (pa_cons (pe_ix ix_tup (pv 0) pe_int (fun _ _ => rfl)) pa_nil))))))), ?_⟩
  cases hc <;> walk_at "rd"
end
end Hn
end

/- HnW23 -/
section
set_option Elab.async false
set_option linter.all false
set_option maxRecDepth 100000
set_option maxHeartbeats 4000000
namespace Hn
open PySem PySem.Spec PyProof.Rows L2 Evl
local macro_rules | `(tactic| walk_at "ev") => `(tactic| first
  | ((with_reducible show ED _ (tVar _) _ _); exact ed_var rfl)
  | ((with_reducible show ED _ (tC _) _ _); first | exact ed_s | exact ed_i | exact ed_b | exact ed_n | exact ed_c (by assumption))
  | ((with_reducible show ED _ (tOp (rIxT _) _ (tC (V.int 0))) _ _); refine' ed_ix0 ?k1 ?k2; (case k1 => walk_at "ev"); (case k2 => rfl))
  | ((with_reducible show ED _ (tOp (rIxT _) _ (tC (V.int 1))) _ _); refine' ed_ix1 ?k1 ?k2; (case k1 => walk_at "ev"); (case k2 => rfl))
  | ((with_reducible show ED _ (tOp (rIxT _) _ (tC (V.int 2))) _ _); refine' ed_ix2 ?k1 ?k2; (case k1 => walk_at "ev"); (case k2 => rfl))
  | ((with_reducible show ED _ (tOp (rIxT _) _ (tC (V.int 3))) _ _); refine' ed_ix3 ?k1 ?k2; (case k1 => walk_at "ev"); (case k2 => rfl))
  | ((with_reducible show ED _ (tOp (rIxT _) _ (tC (V.int 4))) _ _); refine' ed_ix4 ?k1 ?k2; (case k1 => walk_at "ev"); (case k2 => rfl))
  | ((with_reducible show ED _ (tOp (rIxT _) _ (tC (V.int 5))) _ _); refine' ed_ix5 ?k1 ?k2; (case k1 => walk_at "ev"); (case k2 => rfl))
  | ((with_reducible show ED _ (tOp (rIxT _) _ (tVar _)) _ _); first
    | (refine' ed_ixE (j := 1) ?k1 ?k2 ?k3 ?k4; (case k1 => walk_at "ev"); (case k2 => walk_at "ev"); (case k3 => rfl); (case k4 => first | rfl | decide))
    | (refine' ed_ixE (j := 2) ?k1 ?k2 ?k3 ?k4; (case k1 => walk_at "ev"); (case k2 => walk_at "ev"); (case k3 => rfl); (case k4 => first | rfl | decide)))
  | ((with_reducible show ED _ (tCB _ (tCons _ tNil)) _ _); refine' ed_len ?k1 ?k2; (case k1 => walk_at "ev"); (case k2 => rfl))
  | ((with_reducible show ED _ (tTup _) _ _); refine' ed_tup ?k1 ?k2; (case k1 => walk_at "es"); (case k2 => exact Nat.le_of_ble_eq_true rfl))
  | ((with_reducible show ED _ (tCall _ _ _ _) _ _); refine' ed_call ?k1 ?k2; (case k1 => walk_at "es"); (case k2 => walk_at "cl"))
  | ((with_reducible show ED _ (tCallN _ _ _ _ _ _ _) _ _); refine' ed_callK ?k1 ?k2 ?k3 ?k4 ?k5; (case k1 => walk_at "es"); (case k2 => walk_at "es"); (case k3 => walk_at "cl"); (case k4 => rfl); (case k5 => rfl))
  | ((with_reducible show ED _ (tOp (rI0 _) _ _) _ _); first
    | (refine' ed_add ?k1 ?k2; (case k1 => walk_at "ev"); (case k2 => walk_at "ev"))
    | (refine' ed_sub ?k1 ?k2; (case k1 => walk_at "ev"); (case k2 => walk_at "ev"))
    | (refine' ed_lt ?k1 ?k2; (case k1 => walk_at "ev"); (case k2 => walk_at "ev"))))
local macro_rules | `(tactic| walk_at "es") => `(tactic| first
  | ((with_reducible show EDs _ tNil _ _); exact es_nil)
  | ((with_reducible show EDs _ (tCons _ _) _ _); refine' es_cons ?k1 ?k2; (case k1 => walk_at "ev"); (case k2 => walk_at "es")))
local macro_rules | `(tactic| walk_at "eb") => `(tactic| first
  | ((with_reducible show EB _ (tTest (tOp rEq _ _)) _ _); refine' eb_eqS ?k1 ?k2 ?k3; (case k1 => walk_at "ev"); (case k2 => walk_at "ev"); (case k3 => first | decide +kernel | assumption))
  | ((with_reducible show EB _ (tTest (tOp rNe _ _)) _ _); refine' eb_neS ?k1 ?k2 ?k3; (case k1 => walk_at "ev"); (case k2 => walk_at "ev"); (case k3 => first | decide +kernel | assumption))
  | ((with_reducible show EB _ (tTest (tOp (rEqD _) _ _)) _ _); first
    | (refine' eb_ck ?k1 ?k2 ?k3 ?k4; (case k1 => walk_at "ev"); (case k2 => walk_at "ev"); (case k3 => first | rfl | decide +kernel | assumption); (case k4 => first | assumption | decide +kernel | omega))
    | (refine' eb_tyA ?k1 ?k2 ?k3 ?k4; (case k1 => walk_at "ev"); (case k2 => walk_at "ev"); (case k3 => first | rfl | decide +kernel | assumption); (case k4 => first | assumption | decide +kernel | omega))
    | (refine' eb_ty ?k1 ?k2 ?k3 ?k4 ?k5; (case k1 => walk_at "ev"); (case k2 => walk_at "ev"); (case k3 => first | assumption | rfl); (case k4 => first | assumption | decide +kernel | omega); (case k5 => first | assumption | decide +kernel | omega)))
  | ((with_reducible show EB _ (tTest (tOp (rIn _ _) _ _)) _ _); refine' eb_in ?k1 ?k2 ?k3; (case k1 => walk_at "ev"); (case k2 => walk_at "ev"); (case k3 => decide +kernel))
  | ((with_reducible show EB _ (tOr _ _) _ _); first
    | (refine' eb_or (b := true) ?k1 ?k2 ?k3; (case k1 => walk_at "eb"); (case k2 => intro z; cases z); (case k3 => intro _; rfl))
    | (refine' eb_or (b := false) ?k1 ?k2 ?k3; (case k1 => walk_at "eb"); (case k2 => intro _; walk_at "eb"); (case k3 => intro z; cases z)))
  | ((with_reducible show EB _ (tAnd _ _) _ _); first
    | (refine' eb_and (b := false) ?k1 ?k2 ?k3; (case k1 => walk_at "eb"); (case k2 => intro z; cases z); (case k3 => intro _; rfl))
    | (refine' eb_and (b := true) ?k1 ?k2 ?k3; (case k1 => walk_at "eb"); (case k2 => intro _; walk_at "eb"); (case k3 => intro z; cases z)))
  | ((with_reducible show EB _ (tNot _) _ _); first | (refine' eb_not (b := true) ?k1 rfl; (case k1 => walk_at "eb")) | (refine' eb_not (b := false) ?k1 rfl; (case k1 => walk_at "eb")))
  | ((with_reducible show EB _ (tB _) _ _); refine' eb_val ?k1; (case k1 => walk_at "ev")))
local macro_rules | `(tactic| walk_at "rd") => `(tactic| first
  | ((with_reducible show RD _ (tRet _) _ _); refine' rd_ret ?k1; (case k1 => walk_at "ev"))
  | ((with_reducible show RD _ (tSeq (tIfS _ _ tNext) _) _ _); (first
    | ((with_reducible refine' rd_skip ?k1 ?k2); (case k1 => walk_at "eb"))
    | ((with_reducible refine' rd_take ?k1 ?k2); (case k1 => walk_at "eb"))); (walk_at "rd"))
  | ((with_reducible show RD _ (tIfS _ _ _) _ _); (first
    | ((with_reducible refine' rd_yes ?k1 ?k2); (case k1 => walk_at "eb"))
    | ((with_reducible refine' rd_no ?k1 ?k2); (case k1 => walk_at "eb"))); (walk_at "rd"))
  | ((with_reducible show RD _ (tSeq _ _) _ _); (with_reducible refine' rd_sn ?k1 ?k2); (case k1 => walk_at "nd"); (case k2 => walk_at "rd")))
local macro_rules | `(tactic| walk_at "nd") => `(tactic| first
  | ((with_reducible show ND _ tNext _ _); exact nd_next)
  | ((with_reducible show ND _ (tAsg _ _) _ _); refine' nd_asg ?k1; (case k1 => walk_at "ev"))
  | ((with_reducible show ND _ (tIfS _ _ _) _ _); (first
    | ((with_reducible refine' nd_yes ?k1 ?k2); (case k1 => walk_at "eb"))
    | ((with_reducible refine' nd_no ?k1 ?k2); (case k1 => walk_at "eb"))); (walk_at "nd"))
  | ((with_reducible show ND _ (tSeq _ _) _ _); (with_reducible refine' nd_sn ?k1 ?k2); (case k1 => walk_at "nd"); (case k2 => walk_at "nd")))
local macro_rules | `(tactic| walk_at "cl") => `(tactic| first | assumption | skip)
local macro_rules | `(tactic| walk_at "gv") => `(tactic| first
  | (refine' em_ed ?k1; (case k1 => walk_at "ev"))
  | ((with_reducible show GE _ _ (tFld _ _ _) _ _ _); first
    | (refine' ge_known ?kT ?k1 ?k2; (case kT => assumption); (case k1 => walk_at "gv"); (case k2 => assumption))
    | (refine' ge_core ?kT ?k1 ?k2; (case kT => assumption); (case k1 => walk_at "gv"); (case k2 => assumption))
    | (refine' ge_num ?kT ?k1 ?k2; (case kT => assumption); (case k1 => walk_at "gv"); (case k2 => assumption)))
  | ((with_reducible show GE _ _ (tOp (rIxL _) _ (tC (V.int 0))) _ _ _); refine' ge_ixL0 ?k1 ?k2 ?k3; (case k1 => walk_at "gv"); (case k2 => assumption); (case k3 => rfl))
  | ((with_reducible show GE _ _ (tOp (rIxL _) _ (tC (V.int 1))) _ _ _); refine' ge_ixL1 ?k1 ?k2 ?k3; (case k1 => walk_at "gv"); (case k2 => assumption); (case k3 => rfl))
  | ((with_reducible show GE _ _ (tOp (rIxL _) _ (tC (V.int 2))) _ _ _); refine' ge_ixL2 ?k1 ?k2 ?k3; (case k1 => walk_at "gv"); (case k2 => assumption); (case k3 => rfl))
  | ((with_reducible show GE _ _ (tOp (rIxT _) _ (tC (V.int 0))) _ _ _); refine' ge_ix0 ?k1 ?k2; (case k1 => walk_at "gv"); (case k2 => rfl))
  | ((with_reducible show GE _ _ (tOp (rIxT _) _ (tC (V.int 1))) _ _ _); refine' ge_ix1 ?k1 ?k2; (case k1 => walk_at "gv"); (case k2 => rfl))
  | ((with_reducible show GE _ _ (tOp (rIxT _) _ (tC (V.int 2))) _ _ _); refine' ge_ix2 ?k1 ?k2; (case k1 => walk_at "gv"); (case k2 => rfl))
  | ((with_reducible show GE _ _ (tTup _) _ _ _); refine' em_tup ?k1 ?k2; (case k1 => walk_at "gs"); (case k2 => exact Nat.le_of_ble_eq_true rfl))
  | ((with_reducible show GE _ _ (tMeth _ _ _ _ _ _ _) _ _ _); refine' ge_fit ?k1 ?k2 ?k3 ?k4; (case k1 => walk_at "gv"); (case k2 => assumption); (case k3 => walk_at "gs"); (case k4 => walk_at "cl"))
  | ((with_reducible show GE _ _ (tCall (spQ _ _) _ _ _) _ _ _); refine' ge_q ?k1 ?k2; (case k1 => walk_at "gs"); (case k2 => walk_at "cl"))
  | ((with_reducible show GE _ _ (tCall (spD _ _) _ _ _) _ _ _); refine' em_call ?k1 ?k2; (case k1 => walk_at "gs"); (case k2 => walk_at "cl")))
local macro_rules | `(tactic| walk_at "gs") => `(tactic| first
  | ((with_reducible show GEs _ _ tNil _ _ _ _); exact ems_nil)
  | ((with_reducible show GEs _ _ (tCons _ _) _ _ _ _); refine' ems_cons ?k1 ?k2; (case k1 => walk_at "gv"); (case k2 => walk_at "gs")))
local macro_rules | `(tactic| walk_at "gb") => `(tactic| first
  | (refine' bm_eb ?k1; (case k1 => walk_at "eb"))
  | ((with_reducible show GB _ _ (tTest (tOp (rEqD _) _ _)) _ _ _ _); first
    | (refine' gb_tyA ?k1 ?k2 ?k3 ?k4; (case k1 => walk_at "gv"); (case k2 => walk_at "gv"); (case k3 => first | rfl | decide +kernel | assumption); (case k4 => first | assumption | decide +kernel | omega))
    | (refine' gb_ty ?k1 ?k2 ?k3 ?k4 ?k5; (case k1 => walk_at "gv"); (case k2 => walk_at "gv"); (case k3 => first | assumption | rfl); (case k4 => first | assumption | decide +kernel | omega); (case k5 => first | assumption | decide +kernel | omega)))
  | ((with_reducible show GB _ _ (tTest (tOp rNe _ _)) _ _ _ _); refine' gb_neS ?k1 ?k2 ?k3; (case k1 => walk_at "gv"); (case k2 => walk_at "gv"); (case k3 => first | decide +kernel | assumption))
  | ((with_reducible show GB _ _ (tNot _) _ _ _ _); first | (refine' bm_not (b := true) ?k1 rfl; (case k1 => walk_at "gb")) | (refine' bm_not (b := false) ?k1 rfl; (case k1 => walk_at "gb")))
  | ((with_reducible show GB _ _ (tB _) _ _ _ _); refine' gb_val ?k1; (case k1 => walk_at "gv")))
local macro_rules | `(tactic| walk_at "gr") => `(tactic| first
  | ((with_reducible show GR _ _ (tRet _) _ _ _); refine' rr_ret ?k1; (case k1 => walk_at "gv"))
  | ((with_reducible show GR _ _ (tSeq (tIfS _ _ tNext) _) _ _ _); (first
    | ((with_reducible refine' rr_skip ?k1 ?k2); (case k1 => walk_at "gb"))
    | ((with_reducible refine' rr_take ?k1 ?k2); (case k1 => walk_at "gb"))); (walk_at "gr"))
  | ((with_reducible show GR _ _ (tSeq _ _) _ _ _); (with_reducible refine' rr_sn ?k1 ?k2); (case k1 => walk_at "gn"); (case k2 => walk_at "gr")))
local macro_rules | `(tactic| walk_at "gn") => `(tactic| first
  | ((with_reducible show GN _ _ tNext _ _ _ _); exact nm_next)
  | ((with_reducible show GN _ _ (tAsg _ (gName _)) _ _ _ _); refine' nm_asg ?k1; (case k1 => walk_at "gv"))
  | ((with_reducible show GN _ _ (tAsg _ _) _ _ _ _); refine' gn_up2 ?k1; (case k1 => walk_at "gv"))
  | ((with_reducible show GN _ _ (tIfS _ _ _) _ _ _ _); (first
    | ((with_reducible refine' nm_yes ?k1 ?k2); (case k1 => walk_at "gb"))
    | ((with_reducible refine' nm_no ?k1 ?k2); (case k1 => walk_at "gb"))); (walk_at "gn"))
  | ((with_reducible show GN _ _ (tSeq _ _) _ _ _ _); (with_reducible refine' nm_sn ?k1 ?k2); (case k1 => walk_at "gn"); (case k2 => walk_at "gn")))
section
variable {P : Program} {w : World} {K : PySem.W.Frag} {mg : Str → Option Value} {base : Heap}
def spLs (K : PySem.W.Frag) : Sp := fun vs H Q _ => ∃ (p : Addr) (ns : List Int), vs = [.ref p] ∧ SqL K H p (ns.map V.int) ∧ ns.length ≤ 63 ∧ ∀ a H', LW H a () H' → Q (.ref a) H'
theorem ok_lstate (T : Tx w K mg) : C8.Cal P w K mg base 1 "_law_state" (spLs K) [] := by
  refine mk_law_state T fun fd F => F.ok sc_law_state (fun vs H Q E h => ?_) fun cdv A outer s H vs Q E hr h => ?_
  · obtain ⟨p, ns, rfl, _⟩ := h
    rfl
  · obtain ⟨p, ns, rfl, hp, hn, q⟩ := h
    refine ⟨_, PSs.nox (pss_cons (ps_setLc (i := 1) (own := [("_law_cell", 2)]) (g := gName 2) (tt := tYes) rfl sc_law_state.nd rfl rfl rfl (pi_list (pe_slice sl_list (pv 0) po_none (po_some pe_int))) (blkOk_by (N := ["_law_script", "_law_cells", "_law_cell"]) (sc := defScope s_law_state) (by decide +kernel)) (fun _ _ _ _ _ => pg_name (i := 2) sc_law_state.nd rfl (Or.inl rfl)) (fun _ _ _ _ _ => pts_nil) (fun _ _ _ _ _ => (pe_callB call_abs (by rfl) (fr_abs T) (by decide +kernel) (pa_cons (pv 2) pa_nil))))
  (pss_cons (ps_if (pt_cmpR op_eq (pe_callB call_len_seq (by rfl) (fr_len T) (by decide +kernel) (pa_cons (pv 1) pa_nil)) pe_int (nomark _)) (pss_one (ps_set (i := 1) sc_law_state.nd rfl (Or.inl rfl) (pe_lst (pa_cons pe_int pa_nil)))) pss_nil)
  (pss_one (ps_ret (pe_lst (pa_cons pe_int (pa_cons (pv 1) pa_nil))))))), ?_⟩
    refine ⟨_, rfl, _, rfl, p, _, rfl, hp, fun p2 np2 => ?_⟩
    have e2 : Ex H (upd H p2 (.lst (cutV (ns.map V.int) none (some 63)))) := Ex.new np2
    have hc : cutV (ns.map V.int) none (some (63 : Int)) = (ns.map V.int).take (min 63 (ns.map V.int).length) := by
      unfold cutV
      rw [HT.sIx_none, show (63 : Int) = ((63 : Nat) : Int) from rfl, HT.sIx_nat, List.drop_zero, Nat.sub_zero]
    have hc2 : cutV (ns.map V.int) none (some (63 : Int)) = ns.map V.int := by
      rw [hc, List.length_map, Nat.min_eq_right hn, List.take_of_length_le (by rw [List.length_map]; exact Nat.le_refl _)]
    rw [hc2] at e2 ⊢
    have hp2 : upd H p2 (.lst (ns.map V.int)) p2 = some (.lst (ns.map V.int)) := upd_same
    generalize upd H p2 (.lst (ns.map V.int)) = H2 at e2 hp2
    refine ⟨p2, rfl, ⟨_, SqL.of hp2⟩, fun Dl nD => ?_⟩
    refine lc_list (K := K) (a := p2) (xs := ns.map V.int) (fun i H3 => Ex H2 H3 ∧ H3 Dl = some (.lst (((ns.take i).map fun x => if x < 0 then -x else x).map V.int))) ⟨Ex.new nD, upd_same⟩ (fun i H3 _ ⟨e3, _⟩ => SqL.of (e3 _ _ hp2)) (fun i x H3 hx ⟨e3, h3⟩ => ?_) fun H3 ⟨e3, h3⟩ => ?_
    · have hi : i < ns.length := by have := (List.getElem?_eq_some_iff.mp hx).1; rw [List.length_map] at this; exact this
      rw [List.getElem?_map, List.getElem?_eq_getElem hi] at hx
      cases hx
      refine ⟨rfl, _, rfl, ns[i], rfl, _, h3, by rw [List.length_map, List.length_map, List.length_take]; exact small1000 (by omega), fun a o z => ?_, ?_⟩
      · have z3 := e3 _ _ z
        rw [upd_ne (ne_of_none z nD)]; exact z3
      · rw [upd_same, List.take_add_one, List.getElem?_eq_getElem hi, List.map_append, List.map_append] <;> rfl
    · rw [List.length_map, List.take_length] at h3
      have nDH : H Dl = none := fresh_back e2 nD
      generalize hms : (ns.map fun x => if x < 0 then -x else x) = ms at h3
      have hml : ms.length = ns.length := by rw [← hms, List.length_map]
      have fin : ∀ (b : Addr) (ms' : List Int) (H4 : Hp), 0 < ms'.length → ms'.length ≤ 63 → Ex H H4 → H b = none → H4 b = some (.lst (ms'.map V.int)) → ∀ a, H4 a = none → Q (.ref a) (upd H4 a (.lst [.int 0, .ref b])) := fun b ms' H4 h0 h1 e4 nb hb a na => by
        refine q a _ ⟨b, 0, ms', upd_same, ?_, fun z => ?_, h0, by omega, e4.trans (Ex.new na), fresh_back e4 na, nb⟩
        · rw [upd_ne (ne_of_none hb na)]; exact hb
        · subst z
          rw [na] at hb
          cases hb
      refine ⟨_, rfl, Dl, ms.map V.int, rfl, .inl (SqL.of h3), rfl, _, rfl, ?_⟩
      by_cases h0 : ms.length = 0
      · have eq : decide (V.int (((ms.map V.int).length : Nat) : Int) = V.int 0) = true := decide_eq_true (by rw [List.length_map, h0] <;> rfl)
        rw [eq]
        refine iteT ?_
        refine ⟨(by show 1 ≤ sizeLine; decide), fun b nb => ?_⟩
        refine ⟨_, rfl, (by show 2 ≤ sizeLine; decide), fun a na => ?_⟩
        have e34 : Ex H3 (upd H3 b (.lst [.int 0])) := Ex.new nb
        exact fin b [0] _ (by decide) (by decide) ((e2.trans e3).trans e34) (fresh_back (e2.trans e3) nb) upd_same a na
      · have eq : decide (V.int (((ms.map V.int).length : Nat) : Int) = V.int 0) = false := decide_eq_false fun z => by
          injection z with z
          rw [List.length_map] at z
          omega
        rw [eq]
        refine iteF ?_
        refine ⟨_, rfl, (by show 2 ≤ sizeLine; decide), fun a na => ?_⟩
        exact fin Dl ms H3 (by omega) (by omega) (e2.trans e3) nDH h3 a na
end
end Hn
end

/- HnW24 -/
section
set_option Elab.async false
set_option linter.all false
set_option maxRecDepth 100000
set_option maxHeartbeats 4000000
/-! Halfnoted: the law's own def is asked only where the claim's caller stands (its repr wants to know that no repr is under way). -/
namespace Hn
open PySem PySem.Spec PyProof.Rows L2 Evl
/-- what a def does when the claim's caller calls it -/
def RunC (P : Program) (w : World) (K : PySem.W.Frag) (mg : Str → Option Value) (base : Heap) (f : Addr) (fd : FuncData) (ps : List Str) (sp : Sp) : Prop :=
  ∀ (s : Shared) (H : Hp) (ar : Args) (us : List Value) (vs : List V) (Q : VK) (E : XK), Env0 P w K mg base callerA [] s H →
    BindsTo s fd ar (ps.zip us) → Vals vs us → sp vs H Q E → codeAny (model P w) callerA (.call (.ref f) ar) (CR C8.CX0 [] P w H s Q E) s
section
variable {P : Program} {w : World} {K : PySem.W.Frag} {mg mb : Str → Option Value} {base : Heap}
theorem runC_of {x qual : Str} {params : Arguments} {body : List Stmt} {scope : Scope} {f : Addr} {fd : FuncData} {N ps : List Str} {k : Nat} {sp : Sp} (F : FunD K x qual params body scope [] [] f fd) (S : FnScope N ps scope) (rm : Room (k + 1) callerA)
    (len : ∀ vs H Q E, sp vs H Q E → vs.length = ps.length)
    (hb : ∀ (cdv : Value) (s : Shared) (H : Hp) (vs : List V) (Q : VK) (E : XK), Room k (callerA.deeper (envOfC qual scope s.heap.objs.size f cdv)) → sp vs H Q E →
      ∃ t, PSs (cxOf C8.CX0 P w K mg base N qual scope f cdv callerA [] s H E) body t ∧ t { nx := fun _ H' => Q .non H', rt := Q } (L2.start N vs) H) : RunC P w K mg base f fd ps sp := by
  intro s H ar us vs Q E e0 bd r hsp
  obtain ⟨_, _, _, _, _, _, _, cdv, _, _, rfl, lk, code, _, _⟩ := F.ex
  have stays := fun b o e => (e0.bs b o e).1
  have kin := e0.mod.kin.keeps stays
  have nolim := e0.mod.nolimit.keeps stays
  have hlen := len _ _ _ _ hsp
  refine codeAny_call_function rm.depth (kin _ _ lk) rfl S.co S.gen rfl
    (PySem.W.codeRec_of kin code) (bd _ _ _ _ (wpAny_newFunctionEnv_cells S.kind ?kinds ?go))
  case kinds =>
    rintro ⟨n, v⟩ hy
    exact (S.par n (List.of_mem_zip hy).1).imp id fun q => ⟨q, PySem.W.cellsFrom_some _ _ _ (.inl q)⟩
  case go =>
    rintro _ rfl s1 st
    obtain ⟨t, ht, hq⟩ := hb cdv s H vs Q E (rm.deeper _) hsp
    refine ⟨nolim.keeps st.toInCall.keep, codeAny_func (wpAny_mono
      (ht.run [] s1 _ H _ (inv_start S rm.hd e0 hlen r st) hq) (fun fl s' hs => ?_) fun _ _ hs => hs)⟩
    match fl, hs with
    | .ret _, ⟨v, _, H', J, rv, q⟩ => exact ⟨v, H', J.os, J.bare, J.base, J.hok, rv, q⟩
    | .next, ⟨_, H', J, q⟩ => exact ⟨.non, H', J.os, J.bare, J.base, J.hok, rfl, q⟩
    | .brk, ⟨_, _, _, q⟩ => exact q.elim
    | .cont, ⟨_, _, _, q⟩ => exact q.elim
/-- the call, from a view of the heap in which at most the script is tracked -/
theorem callC_core {fa a : Addr} {fd : FuncData} {x : Str} {sp : Sp} {s1 : Shared} {o1 : Obj} {xs : List V} {H : Hp} (KX : K.In s1.heap) (gl : s1.heap.Ns mainGlobals mg)
    (bi : s1.heap.Ns builtinsNs mb) (bb : ∀ y : Str, y ≠ "__name__" → mb y = bootBuiltins y) (nl : s1.heap.NoLimit) (hg : s1.gens = #[])
    (ha : s1.heap.get? a = some o1) (hd : ∀ es ep, o1.data ≠ .dict es ep) (hk : HOk P w H s1.heap) (h1 : ∀ b u, H b = some u → b = a ∧ u = .frz o1 (.lst xs)) (h2 : H a ≠ none → K.lookup a = none)
    (run : ∀ base : Heap, K.In base → base.Ns mainGlobals mg → RunC P w K mg base fa fd [x] sp) (bd : ∀ (s : Shared) (u : Value), BindsTo s fd ⟨[u], []⟩ [(x, u)]) (prom : sp [.ref a] H (fun v _ => v = .bl true) C8.E0) :
    codeAny (model P w) callerA (.call (.ref fa) ⟨[.ref a], []⟩) (fun r s' => r = .ok (.ret (.bool true)) ∧ OldK s1.heap s'.heap ∧ s'.os = s1.os ∧
      AllBare s'.gens) s1 := by
  -- what is not the script is not tracked
  have off : ∀ b, b ≠ a → H b = none := fun b nb => by
    cases z : H b with
    | none => rfl
    | some u => exact absurd (h1 b u z).1 nb
  have ns : ∀ {b : Addr} {m : Str → Option Value}, s1.heap.Ns b m → (hidT s1.heap H).Ns b m := by
    rintro b m ⟨o, es, ep, e, d, r⟩
    refine ⟨o, es, ep, hidT_get e (off b fun z => ?_), d, r⟩
    subst z
    rw [ha] at e
    cases e
    exact hd _ _ d
  have kin : K.In (hidT s1.heap H) := fun b o e => by
    refine hidT_get (KX b o e) ?_
    by_cases z : b = a
    · subst z
      cases q : H b with
      | none => rfl
      | some u =>
        rw [h2 (by rw [q]; exact fun k => by cases k)] at e
        cases e
    · exact off b z
  obtain ⟨mc, l1, l2⟩ := nl
  have env : Env0 P w K mg (hidT s1.heap H) callerA [] s1 H := by
    refine ⟨rfl, ⟨kin, ns gl, ⟨mb, ns bi, bb⟩, mc, ns l1, l2⟩, fun b o e => of_hidT e, by rw [hidT_size]; exact Nat.le_refl _, trivial, fun b z => ?_, hk, .of_eq hg⟩
    cases z
  refine codeAny_mono (run _ kin (ns gl) s1 H _ [.ref a] [.ref a] _ _ env (bd s1 _) (.cons rfl .nil) prom) ?_
  intro r s' res
  match r, res with
  | .error _, res => exact res.elim
  | .ok .next, res => exact res.elim
  | .ok .brk, res => exact res.elim
  | .ok .cont, res => exact res.elim
  | .ok (.ret u), ⟨v, H', os, bare, un, ok', rv, q⟩ =>
    have q' : v = .bl true := q
    subst q'
    have rv' : u = Value.bool true := rv
    subst rv'
    refine ⟨rfl, OldK.of_keep fun b o e => ?_, os, bare⟩
    cases z : H b with
    | none => exact un.keep b o e z (fun k => by cases k) fun k => by cases k
    | some u =>
      obtain ⟨rfl, rfl⟩ := h1 b u z
      have y := (ok' _ _ (un.frzs _ _ _ z)).1
      have y0 := (hk _ _ z).1
      rw [e] at y0
      cases y0
      exact y
theorem callC {fa a : Addr} {fd : FuncData} {x : Str} {sp : Sp} {s1 : Shared} {vs : List Value} {ns : List Int} (KX : K.In s1.heap) (gl : s1.heap.Ns mainGlobals mg)
    (bi : s1.heap.Ns builtinsNs mb) (bb : ∀ y : Str, y ≠ "__name__" → mb y = bootBuiltins y) (nl : s1.heap.NoLimit) (hg : s1.gens = #[])
    (ha : s1.heap.get? a = some { cls := .type "list", data := .seq vs.toArray }) (hi : IntsAre vs ns) (hz : ns.length ≤ sizeLine)
    (run : ∀ base : Heap, K.In base → base.Ns mainGlobals mg → RunC P w K mg base fa fd [x] sp) (bd : ∀ (s : Shared) (u : Value), BindsTo s fd ⟨[u], []⟩ [(x, u)])
    (prom : ∀ H : Hp, SqL K H a (ns.map V.int) → sp [.ref a] H (fun v _ => v = .bl true) C8.E0) :
    codeAny (model P w) callerA (.call (.ref fa) ⟨[.ref a], []⟩) (fun r s' => r = .ok (.ret (.bool true)) ∧ OldK s1.heap s'.heap ∧ s'.os = s1.os ∧
      AllBare s'.gens) s1 := by
  have rv := vals_ints hi
  have hlv := hi.length
  have hd : ∀ es ep, ({ cls := .type "list", data := .seq vs.toArray } : Obj).data ≠ .dict es ep := fun _ _ z => by cases z
  by_cases hk : K.lookup a = none
  · refine callC_core (H := upd (fun _ => none) a (.frz { cls := .type "list", data := .seq vs.toArray } (.lst (ns.map V.int)))) (xs := ns.map V.int) KX gl bi bb nl hg ha hd (fun b u z => ?_) (fun b u z => ?_) (fun _ => hk) run bd (prom _ (.inl (.inr ⟨_, upd_same⟩)))
    all_goals
      by_cases e : b = a
      · subst e
        rw [upd_same] at z
        cases z
        first
          | exact ⟨rfl, rfl⟩
          | exact ⟨ha, by rw [List.length_map]; exact hz, vs, _, rv, ha⟩
      · rw [upd_ne e] at z
        cases z
  · obtain ⟨o, ho⟩ := Option.ne_none_iff_exists'.mp hk
    have e := KX a o ho
    rw [ha] at e
    cases e
    refine callC_core (H := fun _ => none) (xs := []) KX gl bi bb nl hg ha hd (fun b u z => ?_) (fun b u z => ?_) (fun z => absurd rfl z) run bd (prom _ (.inr ⟨_, vs.toArray, _, ho, rfl, rfl, rfl, ?_, ?_⟩))
    · exact nomatch z
    · exact nomatch z
    · rw [List.size_toArray, hlv]; exact hz
    · exact rv
end
/-- the end: the law's def, from what it does under the claim's caller -/
theorem walkC {l : PySem.W.OpenLaw} {n : Nat} {q : Program} {loose : List Str} {XP : (Str → Option Value) → Heap → Prop} {YP : World → Heap → Prop} {d : DefRec} {x : Str} (hn : l.most = some n) (hn2 : n ≤ sizeLine) (hdf : d.params.defaults = [])
    (F : ∀ (w : World) (mg : Str → Option Value) (fa : Addr) (h : Heap), YP w h → h.Ns mainGlobals mg → mg d.name = some (.ref fa) →
      ∃ (K : PySem.W.Frag) (fd : FuncData) (sp : Sp), K.In h ∧ (∀ (s : Shared) (u : Value), BindsTo s fd ⟨[u], []⟩ [(x, u)]) ∧
        (∀ (H : Hp) (a : Addr) (ns : List Int), ns.length ≤ n → SqL K H a (ns.map V.int) → sp [.ref a] H (fun v _ => v = .bl true) C8.E0) ∧ ∀ base : Heap, K.In base → base.Ns mainGlobals mg → RunC l.prog w K mg base fa fd [x] sp) :
    PySem.W.WalkO q loose XP YP l.row.toRowW d [] (fun f vs => PySem.call f vs) :=
  Att.attach_call hn hdf fun w s0 s1 mg mb fa o pm cd doc a vs ns G Y _ _ _ hmg hobj hi hlen hg => by
    obtain ⟨K, fd, sp, KX, bd, prom, run⟩ := F w mg fa _ Y G.T.g hmg
    exact callC KX G.T.g G.T.b G.T.builtins G.T.nolimit hg hobj hi (Nat.le_trans hlen hn2) run bd fun H h => prom H a ns hlen h
end Hn
end

/- HnW25 -/
section
set_option Elab.async false
set_option linter.all false
set_option maxRecDepth 100000
set_option maxHeartbeats 4000000
namespace Hn
open PySem PySem.Spec PyProof.Rows L2 Evl
local macro_rules | `(tactic| walk_at "ev") => `(tactic| first
  | ((with_reducible show ED _ (tVar _) _ _); exact ed_var rfl)
  | ((with_reducible show ED _ (tC _) _ _); first | exact ed_s | exact ed_i | exact ed_b | exact ed_n | exact ed_c (by assumption))
  | ((with_reducible show ED _ (tOp (rIxT _) _ (tC (V.int 0))) _ _); refine' ed_ix0 ?k1 ?k2; (case k1 => walk_at "ev"); (case k2 => rfl))
  | ((with_reducible show ED _ (tOp (rIxT _) _ (tC (V.int 1))) _ _); refine' ed_ix1 ?k1 ?k2; (case k1 => walk_at "ev"); (case k2 => rfl))
  | ((with_reducible show ED _ (tOp (rIxT _) _ (tC (V.int 2))) _ _); refine' ed_ix2 ?k1 ?k2; (case k1 => walk_at "ev"); (case k2 => rfl))
  | ((with_reducible show ED _ (tOp (rIxT _) _ (tC (V.int 3))) _ _); refine' ed_ix3 ?k1 ?k2; (case k1 => walk_at "ev"); (case k2 => rfl))
  | ((with_reducible show ED _ (tOp (rIxT _) _ (tC (V.int 4))) _ _); refine' ed_ix4 ?k1 ?k2; (case k1 => walk_at "ev"); (case k2 => rfl))
  | ((with_reducible show ED _ (tOp (rIxT _) _ (tC (V.int 5))) _ _); refine' ed_ix5 ?k1 ?k2; (case k1 => walk_at "ev"); (case k2 => rfl))
  | ((with_reducible show ED _ (tOp (rIxT _) _ (tVar _)) _ _); first
    | (refine' ed_ixE (j := 1) ?k1 ?k2 ?k3 ?k4; (case k1 => walk_at "ev"); (case k2 => walk_at "ev"); (case k3 => rfl); (case k4 => first | rfl | decide))
    | (refine' ed_ixE (j := 2) ?k1 ?k2 ?k3 ?k4; (case k1 => walk_at "ev"); (case k2 => walk_at "ev"); (case k3 => rfl); (case k4 => first | rfl | decide)))
  | ((with_reducible show ED _ (tCB _ (tCons _ tNil)) _ _); refine' ed_len ?k1 ?k2; (case k1 => walk_at "ev"); (case k2 => rfl))
  | ((with_reducible show ED _ (tTup _) _ _); refine' ed_tup ?k1 ?k2; (case k1 => walk_at "es"); (case k2 => exact Nat.le_of_ble_eq_true rfl))
  | ((with_reducible show ED _ (tCall _ _ _ _) _ _); refine' ed_call ?k1 ?k2; (case k1 => walk_at "es"); (case k2 => walk_at "cl"))
  | ((with_reducible show ED _ (tCallN _ _ _ _ _ _ _) _ _); refine' ed_callK ?k1 ?k2 ?k3 ?k4 ?k5; (case k1 => walk_at "es"); (case k2 => walk_at "es"); (case k3 => walk_at "cl"); (case k4 => rfl); (case k5 => rfl))
  | ((with_reducible show ED _ (tOp (rI0 _) _ _) _ _); first
    | (refine' ed_add ?k1 ?k2; (case k1 => walk_at "ev"); (case k2 => walk_at "ev"))
    | (refine' ed_sub ?k1 ?k2; (case k1 => walk_at "ev"); (case k2 => walk_at "ev"))
    | (refine' ed_lt ?k1 ?k2; (case k1 => walk_at "ev"); (case k2 => walk_at "ev"))))
local macro_rules | `(tactic| walk_at "es") => `(tactic| first
  | ((with_reducible show EDs _ tNil _ _); exact es_nil)
  | ((with_reducible show EDs _ (tCons _ _) _ _); refine' es_cons ?k1 ?k2; (case k1 => walk_at "ev"); (case k2 => walk_at "es")))
local macro_rules | `(tactic| walk_at "eb") => `(tactic| first
  | ((with_reducible show EB _ (tTest (tOp rEq _ _)) _ _); refine' eb_eqS ?k1 ?k2 ?k3; (case k1 => walk_at "ev"); (case k2 => walk_at "ev"); (case k3 => first | decide +kernel | assumption))
  | ((with_reducible show EB _ (tTest (tOp rNe _ _)) _ _); refine' eb_neS ?k1 ?k2 ?k3; (case k1 => walk_at "ev"); (case k2 => walk_at "ev"); (case k3 => first | decide +kernel | assumption))
  | ((with_reducible show EB _ (tTest (tOp (rEqD _) _ _)) _ _); first
    | (refine' eb_ck ?k1 ?k2 ?k3 ?k4; (case k1 => walk_at "ev"); (case k2 => walk_at "ev"); (case k3 => first | rfl | decide +kernel | assumption); (case k4 => first | assumption | decide +kernel | omega))
    | (refine' eb_tyA ?k1 ?k2 ?k3 ?k4; (case k1 => walk_at "ev"); (case k2 => walk_at "ev"); (case k3 => first | rfl | decide +kernel | assumption); (case k4 => first | assumption | decide +kernel | omega))
    | (refine' eb_ty ?k1 ?k2 ?k3 ?k4 ?k5; (case k1 => walk_at "ev"); (case k2 => walk_at "ev"); (case k3 => first | assumption | rfl); (case k4 => first | assumption | decide +kernel | omega); (case k5 => first | assumption | decide +kernel | omega)))
  | ((with_reducible show EB _ (tTest (tOp (rIn _ _) _ _)) _ _); refine' eb_in ?k1 ?k2 ?k3; (case k1 => walk_at "ev"); (case k2 => walk_at "ev"); (case k3 => decide +kernel))
  | ((with_reducible show EB _ (tOr _ _) _ _); first
    | (refine' eb_or (b := true) ?k1 ?k2 ?k3; (case k1 => walk_at "eb"); (case k2 => intro z; cases z); (case k3 => intro _; rfl))
    | (refine' eb_or (b := false) ?k1 ?k2 ?k3; (case k1 => walk_at "eb"); (case k2 => intro _; walk_at "eb"); (case k3 => intro z; cases z)))
  | ((with_reducible show EB _ (tAnd _ _) _ _); first
    | (refine' eb_and (b := false) ?k1 ?k2 ?k3; (case k1 => walk_at "eb"); (case k2 => intro z; cases z); (case k3 => intro _; rfl))
    | (refine' eb_and (b := true) ?k1 ?k2 ?k3; (case k1 => walk_at "eb"); (case k2 => intro _; walk_at "eb"); (case k3 => intro z; cases z)))
  | ((with_reducible show EB _ (tNot _) _ _); first | (refine' eb_not (b := true) ?k1 rfl; (case k1 => walk_at "eb")) | (refine' eb_not (b := false) ?k1 rfl; (case k1 => walk_at "eb")))
  | ((with_reducible show EB _ (tB _) _ _); refine' eb_val ?k1; (case k1 => walk_at "ev")))
local macro_rules | `(tactic| walk_at "rd") => `(tactic| first
  | ((with_reducible show RD _ (tRet _) _ _); refine' rd_ret ?k1; (case k1 => walk_at "ev"))
  | ((with_reducible show RD _ (tSeq (tIfS _ _ tNext) _) _ _); (first
    | ((with_reducible refine' rd_skip ?k1 ?k2); (case k1 => walk_at "eb"))
    | ((with_reducible refine' rd_take ?k1 ?k2); (case k1 => walk_at "eb"))); (walk_at "rd"))
  | ((with_reducible show RD _ (tIfS _ _ _) _ _); (first
    | ((with_reducible refine' rd_yes ?k1 ?k2); (case k1 => walk_at "eb"))
    | ((with_reducible refine' rd_no ?k1 ?k2); (case k1 => walk_at "eb"))); (walk_at "rd"))
  | ((with_reducible show RD _ (tSeq _ _) _ _); (with_reducible refine' rd_sn ?k1 ?k2); (case k1 => walk_at "nd"); (case k2 => walk_at "rd")))
local macro_rules | `(tactic| walk_at "nd") => `(tactic| first
  | ((with_reducible show ND _ tNext _ _); exact nd_next)
  | ((with_reducible show ND _ (tAsg _ _) _ _); refine' nd_asg ?k1; (case k1 => walk_at "ev"))
  | ((with_reducible show ND _ (tIfS _ _ _) _ _); (first
    | ((with_reducible refine' nd_yes ?k1 ?k2); (case k1 => walk_at "eb"))
    | ((with_reducible refine' nd_no ?k1 ?k2); (case k1 => walk_at "eb"))); (walk_at "nd"))
  | ((with_reducible show ND _ (tSeq _ _) _ _); (with_reducible refine' nd_sn ?k1 ?k2); (case k1 => walk_at "nd"); (case k2 => walk_at "nd")))
local macro_rules | `(tactic| walk_at "cl") => `(tactic| first | assumption | skip)
local macro_rules | `(tactic| walk_at "gv") => `(tactic| first
  | (refine' em_ed ?k1; (case k1 => walk_at "ev"))
  | ((with_reducible show GE _ _ (tFld _ _ _) _ _ _); first
    | (refine' ge_known ?kT ?k1 ?k2; (case kT => assumption); (case k1 => walk_at "gv"); (case k2 => assumption))
    | (refine' ge_core ?kT ?k1 ?k2; (case kT => assumption); (case k1 => walk_at "gv"); (case k2 => assumption))
    | (refine' ge_num ?kT ?k1 ?k2; (case kT => assumption); (case k1 => walk_at "gv"); (case k2 => assumption)))
  | ((with_reducible show GE _ _ (tOp (rIxL _) _ (tC (V.int 0))) _ _ _); refine' ge_ixL0 ?k1 ?k2 ?k3; (case k1 => walk_at "gv"); (case k2 => assumption); (case k3 => rfl))
  | ((with_reducible show GE _ _ (tOp (rIxL _) _ (tC (V.int 1))) _ _ _); refine' ge_ixL1 ?k1 ?k2 ?k3; (case k1 => walk_at "gv"); (case k2 => assumption); (case k3 => rfl))
  | ((with_reducible show GE _ _ (tOp (rIxL _) _ (tC (V.int 2))) _ _ _); refine' ge_ixL2 ?k1 ?k2 ?k3; (case k1 => walk_at "gv"); (case k2 => assumption); (case k3 => rfl))
  | ((with_reducible show GE _ _ (tOp (rIxT _) _ (tC (V.int 0))) _ _ _); refine' ge_ix0 ?k1 ?k2; (case k1 => walk_at "gv"); (case k2 => rfl))
  | ((with_reducible show GE _ _ (tOp (rIxT _) _ (tC (V.int 1))) _ _ _); refine' ge_ix1 ?k1 ?k2; (case k1 => walk_at "gv"); (case k2 => rfl))
  | ((with_reducible show GE _ _ (tOp (rIxT _) _ (tC (V.int 2))) _ _ _); refine' ge_ix2 ?k1 ?k2; (case k1 => walk_at "gv"); (case k2 => rfl))
  | ((with_reducible show GE _ _ (tTup _) _ _ _); refine' em_tup ?k1 ?k2; (case k1 => walk_at "gs"); (case k2 => exact Nat.le_of_ble_eq_true rfl))
  | ((with_reducible show GE _ _ (tMeth _ _ _ _ _ _ _) _ _ _); refine' ge_fit ?k1 ?k2 ?k3 ?k4; (case k1 => walk_at "gv"); (case k2 => assumption); (case k3 => walk_at "gs"); (case k4 => walk_at "cl"))
  | ((with_reducible show GE _ _ (tCall (spQ _ _) _ _ _) _ _ _); refine' ge_q ?k1 ?k2; (case k1 => walk_at "gs"); (case k2 => walk_at "cl"))
  | ((with_reducible show GE _ _ (tCall (spD _ _) _ _ _) _ _ _); refine' em_call ?k1 ?k2; (case k1 => walk_at "gs"); (case k2 => walk_at "cl")))
local macro_rules | `(tactic| walk_at "gs") => `(tactic| first
  | ((with_reducible show GEs _ _ tNil _ _ _ _); exact ems_nil)
  | ((with_reducible show GEs _ _ (tCons _ _) _ _ _ _); refine' ems_cons ?k1 ?k2; (case k1 => walk_at "gv"); (case k2 => walk_at "gs")))
local macro_rules | `(tactic| walk_at "gb") => `(tactic| first
  | (refine' bm_eb ?k1; (case k1 => walk_at "eb"))
  | ((with_reducible show GB _ _ (tTest (tOp (rEqD _) _ _)) _ _ _ _); first
    | (refine' gb_tyA ?k1 ?k2 ?k3 ?k4; (case k1 => walk_at "gv"); (case k2 => walk_at "gv"); (case k3 => first | rfl | decide +kernel | assumption); (case k4 => first | assumption | decide +kernel | omega))
    | (refine' gb_ty ?k1 ?k2 ?k3 ?k4 ?k5; (case k1 => walk_at "gv"); (case k2 => walk_at "gv"); (case k3 => first | assumption | rfl); (case k4 => first | assumption | decide +kernel | omega); (case k5 => first | assumption | decide +kernel | omega)))
  | ((with_reducible show GB _ _ (tTest (tOp rNe _ _)) _ _ _ _); refine' gb_neS ?k1 ?k2 ?k3; (case k1 => walk_at "gv"); (case k2 => walk_at "gv"); (case k3 => first | decide +kernel | assumption))
  | ((with_reducible show GB _ _ (tNot _) _ _ _ _); first | (refine' bm_not (b := true) ?k1 rfl; (case k1 => walk_at "gb")) | (refine' bm_not (b := false) ?k1 rfl; (case k1 => walk_at "gb")))
  | ((with_reducible show GB _ _ (tB _) _ _ _ _); refine' gb_val ?k1; (case k1 => walk_at "gv")))
local macro_rules | `(tactic| walk_at "gr") => `(tactic| first
  | ((with_reducible show GR _ _ (tRet _) _ _ _); refine' rr_ret ?k1; (case k1 => walk_at "gv"))
  | ((with_reducible show GR _ _ (tSeq (tIfS _ _ tNext) _) _ _ _); (first
    | ((with_reducible refine' rr_skip ?k1 ?k2); (case k1 => walk_at "gb"))
    | ((with_reducible refine' rr_take ?k1 ?k2); (case k1 => walk_at "gb"))); (walk_at "gr"))
  | ((with_reducible show GR _ _ (tSeq _ _) _ _ _); (with_reducible refine' rr_sn ?k1 ?k2); (case k1 => walk_at "gn"); (case k2 => walk_at "gr")))
local macro_rules | `(tactic| walk_at "gn") => `(tactic| first
  | ((with_reducible show GN _ _ tNext _ _ _ _); exact nm_next)
  | ((with_reducible show GN _ _ (tAsg _ (gName _)) _ _ _ _); refine' nm_asg ?k1; (case k1 => walk_at "gv"))
  | ((with_reducible show GN _ _ (tAsg _ _) _ _ _ _); refine' gn_up2 ?k1; (case k1 => walk_at "gv"))
  | ((with_reducible show GN _ _ (tIfS _ _ _) _ _ _ _); (first
    | ((with_reducible refine' nm_yes ?k1 ?k2); (case k1 => walk_at "gb"))
    | ((with_reducible refine' nm_no ?k1 ?k2); (case k1 => walk_at "gb"))); (walk_at "gn"))
  | ((with_reducible show GN _ _ (tSeq _ _) _ _ _ _); (with_reducible refine' nm_sn ?k1 ?k2); (case k1 => walk_at "gn"); (case k2 => walk_at "gn")))
/-! ### repr of a tuple, under the claim's caller -/
def rRp (K : PySem.W.Frag) : List V → Hp → VK → Prop := fun xs H Q => ∃ a d, xs = [.ref a] ∧ Dp K H (.ref a) d ∧ d.showable = true ∧ d.hasDict = false ∧ d.depth ≤ 20 ∧ d.shown.length ≤ sizeLine ∧ Q (.str d.shown) H
theorem call_rp {X : Cx} (hg : X.A.guards = some []) (hu : X.A.units + 64 < cLine) : CallR X (.builtin "repr") (rRp X.K) := by
  intro pins s σ H xs us Q I r h
  obtain ⟨a, d, rfl, hd, h1, h2, h3, h4, q⟩ := h
  obtain ⟨u, rfl, rx⟩ := vals1 r
  obtain ⟨as, hr⟩ := Dp.reads I d _ _ hd rx
  have rx' : u = .ref a := rx
  subst rx'
  exact PySem.repr_of_reads' hr h1 (fun z => by rw [h2] at z; cases z) hg (by omega) (fun _ _ e => e) (fun h' u tk hk => ⟨.str d.shown, H, I.kept hk, ⟨u, rfl⟩, q⟩) h4
/-! ### the world of the law's own def: the state's lists, some lists beside -/
abbrev LS := List (Addr × List D)
def WL (K : PySem.W.Frag) (a : Addr) : LS → Hp → Prop := fun D H => ∃ b k, ∃ ns : List Int, H a = some (.lst [.int k, .ref b]) ∧ H b = some (.lst (ns.map V.int)) ∧ a ≠ b ∧ 0 < ns.length ∧ ns.length ≤ 900 ∧ ∀ p ∈ D, p.1 ≠ a ∧ p.1 ≠ b ∧ ∃ vs, H p.1 = some (.lst vs) ∧ Reps K H p.2 vs
section
variable {K : PySem.W.Frag} {a : Addr} {S : LS} {H H' : Hp}
theorem WL.sta (h : WL K a S H) (e : Sta K H H') : WL K a S H' := by
  obtain ⟨b, k, ns, h1, h2, h3, h4, h5, h6⟩ := h
  refine ⟨b, k, ns, e.li _ _ h1, e.li _ _ h2, h3, h4, h5, fun p hp => ?_⟩
  obtain ⟨z1, z2, vs, z3, z4⟩ := h6 p hp
  exact ⟨z1, z2, vs, e.li _ _ z3, z4.mono e.tm⟩
instance : Gr (WL K a) := ⟨fun e h => h.sta (Sta.ex e)⟩
theorem WL.split (h : WL K a S H) : ∃ H0, LW H0 a () H ∧ ∀ H', LW H0 a () H' → Tm K H H' → WL K a S H' := by
  obtain ⟨b, k, ns, h1, h2, h3, h4, h5, h6⟩ := h
  refine ⟨fun x => if x = a ∨ x = b then none else H x, ⟨b, k, ns, h1, h2, h3, h4, h5, fun x o z => ?_, if_pos (.inl rfl), if_pos (.inr rfl)⟩, fun H' w tm => ?_⟩
  · by_cases e : x = a ∨ x = b
    · rw [if_pos e] at z; cases z
    · rw [if_neg e] at z; exact z
  · obtain ⟨b', k', ns', A⟩ := w
    refine ⟨b', k', ns', A.st, A.ce, A.ne, A.pos, A.lim, fun p hp => ?_⟩
    obtain ⟨z1, z2, vs, z3, z4⟩ := h6 p hp
    have z5 : (fun x => if x = a ∨ x = b then none else H x) p.1 = some (.lst vs) := by
      show (if p.1 = a ∨ p.1 = b then none else H p.1) = _
      rw [if_neg (by rintro (e | e); exact z1 e; exact z2 e)]; exact z3
    refine ⟨z1, fun e => ?_, vs, A.ex _ _ z5, z4.mono tm⟩
    have nb := A.nb
    rw [← e] at nb
    cases z5.symm.trans nb
theorem WL.new {p : Addr} {ds : List D} {vs : List V} (h : WL K a S H) (n : H p = none) (r : Reps K H ds vs) : WL K a ((p, ds) :: S) (upd H p (.lst vs)) := by
  have e : Ex H (upd H p (.lst vs)) := Ex.new n
  obtain ⟨b, k, ns, h1, h2, h3, h4, h5, h6⟩ := h
  refine ⟨b, k, ns, e _ _ h1, e _ _ h2, h3, h4, h5, fun q hq => ?_⟩
  rcases List.mem_cons.mp hq with rfl | hq
  · exact ⟨(ne_of_none h1 n).symm, (ne_of_none h2 n).symm, vs, upd_same, r.mono (Tm.ex e)⟩
  · obtain ⟨z1, z2, vs, z3, z4⟩ := h6 q hq
    exact ⟨z1, z2, vs, e _ _ z3, z4.mono (Tm.ex e)⟩
theorem WL.put {p : Addr} {ds ds' : List D} {vs' : List V} (h : WL K a ((p, ds) :: S) H) (hn : ∀ q ∈ S, q.1 ≠ p) (r : Reps K H ds' vs') : Tm K H (upd H p (.lst vs')) ∧ WL K a ((p, ds') :: S) (upd H p (.lst vs')) := by
  obtain ⟨b, k, ns, h1, h2, h3, h4, h5, h6⟩ := h
  obtain ⟨z1, z2, vs, z3, z4⟩ := h6 (p, ds) (List.mem_cons_self ..)
  have tm : Tm K H (upd H p (.lst vs')) := tm_lst z3
  refine ⟨tm, b, k, ns, by rw [upd_ne z1.symm]; exact h1, by rw [upd_ne z2.symm]; exact h2, h3, h4, h5, fun q hq => ?_⟩
  rcases List.mem_cons.mp hq with rfl | hq
  · exact ⟨z1, z2, vs', upd_same, r.mono tm⟩
  · obtain ⟨y1, y2, ws, y3, y4⟩ := h6 q (List.mem_cons_of_mem _ hq)
    exact ⟨y1, y2, ws, by rw [upd_ne (hn q hq)]; exact y3, y4.mono tm⟩
end
section
variable {K : PySem.W.Frag} {a : Addr} {te ta tb : TE} {tt : TT} {t u w : TS} {as ar : TA} {ds ds' : Lo} {P P2 : D → Prop} {PS : D → LS → Prop} {d : D} {l : List D} {i j : Nat} {S : LS}
theorem wl_call {Rc : List D → (D → Prop) → Prop} {E : XK} (hi : ds[i]? = some (some (.r a))) (h : EDs K ar ds l) (hr : Rc l P) : GE K (WL K a) (tCall (spW K Rc) [] E (tCons (tVar i) ar)) ds S (fun d D' => P d ∧ D' = S) := fun σ H L W Q q =>
  ⟨_, slf L hi, h σ H L _ fun vs H' e r => by
    obtain ⟨H0, w1, w2⟩ := (Gr.g e W : WL K a S H').split
    exact ⟨H0, a, l, P, vs, by rw [List.append_nil], r, w1, hr, fun v H2 d p tm2 W2 r2 => q v H2 d S ⟨p, rfl⟩ ((Tm.ex e).trans tm2) (w2 H2 W2 tm2) r2⟩⟩
theorem wr_asg (h : GE K (WL K a) te ds S (fun d D' => P d ∧ D' = S)) (hu : ∀ d, P d → GR K (WL K a) u (ds.set i (some d)) S PS) : GR K (WL K a) (tSeq (tAsg te (gName i)) u) ds S PS := fun D σ H L W q =>
  h σ H L W _ fun v H' d s p tm W' r => by
    obtain ⟨p, rfl⟩ := p
    exact hu d p D _ H' ((L.mono tm).set r i) W' fun v2 H2 d2 s2 p2 tm2 W2 r2 => q v2 H2 d2 s2 p2 (tm.trans tm2) W2 r2
theorem wl_add {m : Int} (h1 : ED K ta ds (.i m)) (h : GE K (WL K a) te ds S (fun d D' => P d ∧ D' = S)) (hp : ∀ d, P d → ∃ r, d = .i r) : GE K (WL K a) (tOp (rI0 fun i j => .int (i + j)) ta te) ds S (fun d D' => (∃ r, P (.i r) ∧ d = .i (m + r)) ∧ D' = S) := fun σ H L W Q q =>
  h1 σ H L _ fun v H1 e1 r1 => h σ H1 (L.mono (Tm.ex e1)) (Gr.g e1 W) _ fun v2 H2 d s p tm W2 r2 => by
    obtain ⟨p, rfl⟩ := p
    obtain ⟨r, rfl⟩ := hp d p
    have r1' : v = .int m := r1
    have r2' : v2 = .int r := r2
    subst r1' r2'
    exact ⟨m, r, rfl, rfl, q _ H2 _ _ ⟨⟨r, p, rfl⟩, rfl⟩ ((Tm.ex e1).trans tm) W2 rfl⟩
theorem wr_new (hu : ∀ p, GR K (WL K a) u (ds.set i (some (.r p))) ((p, []) :: S) PS) : GR K (WL K a) (tSeq (tAsg (tLst tNil) (gName i)) u) ds S PS := fun D σ H L W q =>
  ⟨Nat.zero_le _, fun p np => by
    have e : Ex H (upd H p (.lst [])) := Ex.new np
    exact hu p D _ _ ((L.mono (Tm.ex e)).set (d := .r p) rfl i) (WL.new W np .nil) fun v2 H2 d2 s2 p2 tm2 W2 r2 => q v2 H2 d2 s2 p2 ((Tm.ex e).trans tm2) W2 r2⟩
theorem wl_elab {e : Sx} {pt : Pt} {m : Int} {E : XK} (h : EDs K as ds [Sx.d e]) (hd : dep e ≤ DE) (hl : el e [] 0 = some (pt, m)) : GE K (WL K a) (tOp (rIxT K) (tCall (spEl K) [] E as) (tC (.int 0))) ds S (Is (Co.d pt.core) S) := fun σ H L W Q q =>
  h σ H L _ fun vs H1 e1 r1 => ⟨e, pt, m, by rw [List.append_nil]; exact r1, hd, hl, fun v H2 st r2 => by
    obtain ⟨t, xs, rfl, hx, x1, r1, rfl, ry, _⟩ := r2
    exact ⟨t, _, ((0 : Nat) : Int), x1, rfl, rfl, hx, atI_nat (by rfl), q x1 H2 _ _ ⟨rfl, rfl⟩ ((Tm.ex e1).trans st.tm) ((Gr.g e1 W : WL K a S H1).sta st) ry⟩⟩
theorem wl_run {e : Co} {Post : Va → MS → Prop} {C : Int → Prop} {E : XK} (h1 : ED K ta ds (Co.d e)) (h : GE K (WL K a) te ds S (fun d D' => (∃ c, C c ∧ d = .i c) ∧ D' = S)) (hE : ∀ c, C c → ∃ k, Ends Post k (.ev e .nil) (start c)) :
    GE K (WL K a) (tCall (spRM K) [] E (tCons ta (tCons te tNil))) ds S (fun d D' => (∃ u s, Post u s ∧ d = toldD u s) ∧ D' = S) := fun σ H L W Q q =>
  h1 σ H L _ fun v1 H1 e1 r1 => h σ H1 (L.mono (Tm.ex e1)) (Gr.g e1 W) _ fun v2 H2 d s p tm W2 r2 => by
    obtain ⟨⟨c, hc, rfl⟩, rfl⟩ := p
    obtain ⟨k, hk⟩ := hE c hc
    exact ⟨e, c, k, Post, .cons (r1.mono tm) (.cons r2 .nil), hk, fun v H3 u s hp e3 r3 => q v H3 _ _ ⟨⟨u, s, hp, rfl⟩, rfl⟩ (((Tm.ex e1).trans tm).trans (Tm.ex e3)) (Gr.g e3 W2) r3⟩
theorem wn_push {p : Addr} {ms : List D} (hi : ds[i]? = some (some (.r p))) (h : ED K te ds d) (hz : ms.length ≤ 900) (hn : ∀ q ∈ S, q.1 ≠ p) : GN K (WL K a) (tDrop (tBM K "list" rAppend (tVar i) (tCons te tNil))) ds ((p, ms) :: S) ds ((p, ms ++ [d]) :: S) := fun D σ H L W q => by
  have W0 := W
  obtain ⟨b, k, ns, h1, h2, h3, h4, h5, h6⟩ := W
  obtain ⟨z1, z2, vs, z3, z4⟩ := h6 (p, ms) (List.mem_cons_self ..)
  refine ⟨_, slf L hi, .inl ⟨rfl, _, SqL.of z3⟩, h σ H L _ fun v H2 e2 r => ?_⟩
  refine ⟨p, vs, v, rfl, rfl, e2 _ _ z3, by rw [z4.len]; exact small1000 (by show ms.length ≤ 1000; omega), ?_⟩
  obtain ⟨tm, w⟩ := WL.put (vs' := vs ++ [v]) (Gr.g e2 W0 : WL K a ((p, ms) :: S) H2) hn ((z4.mono (Tm.ex e2)).app (.cons r .nil))
  exact q _ _ ((Tm.ex e2).trans tm) w ((L.mono (Tm.ex e2)).mono tm)
theorem wl_ix {p : Addr} {ms : List D} {n : Int} (hi : ds[i]? = some (some (.r p))) (hm : (p, ms) ∈ S) (hd : ms[j]? = some d) (hn : n = (j : Int)) : GE K (WL K a) (tOp (rIxL K) (tVar i) (tC (.int n))) ds S (Is d S) := fun σ H L W Q q => by
  have W0 := W
  obtain ⟨b, k, ns, h1, h2, h3, h4, h5, h6⟩ := W
  obtain ⟨z1, z2, vs, z3, z4⟩ := h6 _ hm
  obtain ⟨y, y1, y2⟩ := z4.get hd
  subst hn
  exact ⟨_, slf L hi, p, vs, j, y, rfl, rfl, SqL.of z3, atI_nat y1, q y H d S ⟨rfl, rfl⟩ Tm.refl W0 y2⟩
/-- two like tuples, asked for their likeness -/
theorem wl_eqV {e : D} {b : Bool} (h1 : GE K (WL K a) ta ds S (Is d S)) (h2 : GE K (WL K a) tb ds S (Is e S)) (f1 : d.flat = true) (f2 : e.flat = true) (p1 : d.py.depth ≤ 64) (p2 : e.py.depth ≤ 64) (hb : PyData.eqv d.py e.py = b) : GE K (WL K a) (tOp (rEqD K) ta tb) ds S (Is (.b b) S) := fun σ H L W Q q =>
  h1 σ H L W _ fun v H' d' st' k tm W' r => by
    obtain ⟨rfl, rfl⟩ := k
    refine h2 σ H' (L.mono tm) W' _ fun v2 H2 d2 st3 k2 tm2 W2 r2 => ?_
    obtain ⟨rfl, rfl⟩ := k2
    refine ⟨_, _, dp_of f1 (r.mono tm2), dp_of f2 r2, ?_, ?_, by rw [hb]; exact q _ H2 _ _ ⟨rfl, rfl⟩ (tm.trans tm2) W2 rfl⟩
    · unfold SeqAt.shaped; rw [canLay_of f1, decide_eq_true p1] <;> rfl
    · unfold SeqAt.shaped; rw [canLay_of f2, decide_eq_true p2] <;> rfl
theorem wl_andV (h1 : GE K (WL K a) ta ds S (Is (.b true) S)) (h2 : GE K (WL K a) tb ds S PS) : GE K (WL K a) (tAndV ta tb) ds S PS := fun σ H L W Q q =>
  h1 σ H L W _ fun v H' d' st' k tm W' r => by
    obtain ⟨rfl, rfl⟩ := k
    have r' : v = .bl true := r
    subst r'
    exact ⟨true, rfl, iteT (h2 σ H' (L.mono tm) W' Q fun v2 H2 d2 s2 p2 tm2 W2 r2 => q v2 H2 d2 s2 p2 (tm.trans tm2) W2 r2)⟩
/-- the told's first two, and what is due, are shown alike -/
theorem eb_rp {x y z due : D} (hi : ds[i]? = some (some (.t [x, y, z]))) (hj : ds[j]? = some (some due)) (e : due = .t [x, y]) (f : due.flat = true) (h1 : due.py.showable = true) (h2 : due.py.hasDict = false) (h3 : due.py.depth ≤ 20) (h4 : due.py.shown.length ≤ sizeLine) :
    EB K (tTest (tOp rNe (tCB (rRp K) (tCons (tSl (rSlT K) (tVar i) tNoPart (tPart (tC (.int 2)))) tNil)) (tCB (rRp K) (tCons (tVar j) tNil)))) ds false := fun σ H L Q q => by
  obtain ⟨v, hv, rv⟩ := L.get hi
  obtain ⟨u, hu, ru⟩ := L.get hj
  obtain ⟨t, xs, rfl, ht, x1, r1, rfl, rx, x2, r2, rfl, ry, x3, r3, rfl, rz, e4⟩ := rv
  have e4' : r3 = [] := e4
  subst e4' e
  refine ⟨_, hv, _, rfl, t, _, rfl, ht, ?_, fun p np => ?_⟩
  · intro z
    exact absurd z.2 (by show ¬ (2 = 3); decide)
  have ee : Ex H (upd H p (.tup (cutV [x1, x2, x3] none (some 2)))) := Ex.new np
  have hc : cutV [x1, x2, x3] none (some 2) = [x1, x2] := rfl
  rw [hc] at ee ⊢
  have rt : Rep K (upd H p (.tup [x1, x2])) (.t [x, y]) (.ref p) := rep_tup upd_same (.cons (rx.ex ee) (.cons (ry.ex ee) .nil))
  refine ⟨p, _, rfl, dp_of f rt, h1, h2, h3, h4, ?_⟩
  have ru' := ru.ex ee
  obtain ⟨t2, ys, rfl, _⟩ := id ru'
  refine ⟨_, hu, t2, _, rfl, dp_of f ru', h1, h2, h3, h4, rfl, _, rfl, ?_⟩
  have e5 : (!decide (V.str (D.t [x, y]).py.shown = V.str (D.t [x, y]).py.shown)) = false := by rw [decide_eq_true rfl] <;> rfl
  rw [e5]
  exact q _ ee
end
/-! ### what is due -/
def dueD (A : Ty) (e : Sx) : D := .t [.t [], .t [.s "value", shW A e]]
theorem due_ok {A : Ty} {e : Sx} (h : IsC A e) : (dueD A e).flat = true ∧ (dueD A e).py.showable = true ∧ (dueD A e).py.hasDict = false ∧ (dueD A e).py.depth ≤ 20 ∧ (dueD A e).py.shown.length ≤ sizeLine := by
  cases h with
  | int i h0 h1 =>
    obtain ⟨n, rfl⟩ := Int.eq_ofNat_of_zero_le h0
    have hn : n < 99 := by omega
    clear h0 h1
    revert n
    decide +kernel
  | _ => exact ⟨by kernel_rfl, by kernel_rfl, by kernel_rfl, Nat.le_of_ble_eq_true (by kernel_rfl), Nat.le_of_ble_eq_true (by kernel_rfl)⟩
end Hn
end

/- HnW26 -/
section
set_option Elab.async false
set_option linter.all false
set_option maxRecDepth 100000
set_option maxHeartbeats 4000000
namespace Hn
open PySem PySem.Spec PyProof.Rows L2 Evl
local macro_rules | `(tactic| walk_at "ev") => `(tactic| first
  | ((with_reducible show ED _ (tVar _) _ _); exact ed_var rfl)
  | ((with_reducible show ED _ (tC _) _ _); first | exact ed_s | exact ed_i | exact ed_b | exact ed_n | exact ed_c (by assumption))
  | ((with_reducible show ED _ (tOp (rIxT _) _ (tC (V.int 0))) _ _); refine' ed_ix0 ?k1 ?k2; (case k1 => walk_at "ev"); (case k2 => rfl))
  | ((with_reducible show ED _ (tOp (rIxT _) _ (tC (V.int 1))) _ _); refine' ed_ix1 ?k1 ?k2; (case k1 => walk_at "ev"); (case k2 => rfl))
  | ((with_reducible show ED _ (tOp (rIxT _) _ (tC (V.int 2))) _ _); refine' ed_ix2 ?k1 ?k2; (case k1 => walk_at "ev"); (case k2 => rfl))
  | ((with_reducible show ED _ (tOp (rIxT _) _ (tC (V.int 3))) _ _); refine' ed_ix3 ?k1 ?k2; (case k1 => walk_at "ev"); (case k2 => rfl))
  | ((with_reducible show ED _ (tOp (rIxT _) _ (tC (V.int 4))) _ _); refine' ed_ix4 ?k1 ?k2; (case k1 => walk_at "ev"); (case k2 => rfl))
  | ((with_reducible show ED _ (tOp (rIxT _) _ (tC (V.int 5))) _ _); refine' ed_ix5 ?k1 ?k2; (case k1 => walk_at "ev"); (case k2 => rfl))
  | ((with_reducible show ED _ (tOp (rIxT _) _ (tVar _)) _ _); first
    | (refine' ed_ixE (j := 1) ?k1 ?k2 ?k3 ?k4; (case k1 => walk_at "ev"); (case k2 => walk_at "ev"); (case k3 => rfl); (case k4 => first | rfl | decide))
    | (refine' ed_ixE (j := 2) ?k1 ?k2 ?k3 ?k4; (case k1 => walk_at "ev"); (case k2 => walk_at "ev"); (case k3 => rfl); (case k4 => first | rfl | decide)))
  | ((with_reducible show ED _ (tCB _ (tCons _ tNil)) _ _); refine' ed_len ?k1 ?k2; (case k1 => walk_at "ev"); (case k2 => rfl))
  | ((with_reducible show ED _ (tTup _) _ _); refine' ed_tup ?k1 ?k2; (case k1 => walk_at "es"); (case k2 => exact Nat.le_of_ble_eq_true rfl))
  | ((with_reducible show ED _ (tCall _ _ _ _) _ _); refine' ed_call ?k1 ?k2; (case k1 => walk_at "es"); (case k2 => walk_at "cl"))
  | ((with_reducible show ED _ (tCallN _ _ _ _ _ _ _) _ _); refine' ed_callK ?k1 ?k2 ?k3 ?k4 ?k5; (case k1 => walk_at "es"); (case k2 => walk_at "es"); (case k3 => walk_at "cl"); (case k4 => rfl); (case k5 => rfl))
  | ((with_reducible show ED _ (tOp (rI0 _) _ _) _ _); first
    | (refine' ed_add ?k1 ?k2; (case k1 => walk_at "ev"); (case k2 => walk_at "ev"))
    | (refine' ed_sub ?k1 ?k2; (case k1 => walk_at "ev"); (case k2 => walk_at "ev"))
    | (refine' ed_lt ?k1 ?k2; (case k1 => walk_at "ev"); (case k2 => walk_at "ev"))))
local macro_rules | `(tactic| walk_at "es") => `(tactic| first
  | ((with_reducible show EDs _ tNil _ _); exact es_nil)
  | ((with_reducible show EDs _ (tCons _ _) _ _); refine' es_cons ?k1 ?k2; (case k1 => walk_at "ev"); (case k2 => walk_at "es")))
local macro_rules | `(tactic| walk_at "eb") => `(tactic| first
  | ((with_reducible show EB _ (tTest (tOp rEq _ _)) _ _); refine' eb_eqS ?k1 ?k2 ?k3; (case k1 => walk_at "ev"); (case k2 => walk_at "ev"); (case k3 => first | decide +kernel | assumption))
  | ((with_reducible show EB _ (tTest (tOp rNe _ _)) _ _); refine' eb_neS ?k1 ?k2 ?k3; (case k1 => walk_at "ev"); (case k2 => walk_at "ev"); (case k3 => first | decide +kernel | assumption))
  | ((with_reducible show EB _ (tTest (tOp (rEqD _) _ _)) _ _); first
    | (refine' eb_ck ?k1 ?k2 ?k3 ?k4; (case k1 => walk_at "ev"); (case k2 => walk_at "ev"); (case k3 => first | rfl | decide +kernel | assumption); (case k4 => first | assumption | decide +kernel | omega))
    | (refine' eb_tyA ?k1 ?k2 ?k3 ?k4; (case k1 => walk_at "ev"); (case k2 => walk_at "ev"); (case k3 => first | rfl | decide +kernel | assumption); (case k4 => first | assumption | decide +kernel | omega))
    | (refine' eb_ty ?k1 ?k2 ?k3 ?k4 ?k5; (case k1 => walk_at "ev"); (case k2 => walk_at "ev"); (case k3 => first | assumption | rfl); (case k4 => first | assumption | decide +kernel | omega); (case k5 => first | assumption | decide +kernel | omega)))
  | ((with_reducible show EB _ (tTest (tOp (rIn _ _) _ _)) _ _); refine' eb_in ?k1 ?k2 ?k3; (case k1 => walk_at "ev"); (case k2 => walk_at "ev"); (case k3 => decide +kernel))
  | ((with_reducible show EB _ (tOr _ _) _ _); first
    | (refine' eb_or (b := true) ?k1 ?k2 ?k3; (case k1 => walk_at "eb"); (case k2 => intro z; cases z); (case k3 => intro _; rfl))
    | (refine' eb_or (b := false) ?k1 ?k2 ?k3; (case k1 => walk_at "eb"); (case k2 => intro _; walk_at "eb"); (case k3 => intro z; cases z)))
  | ((with_reducible show EB _ (tAnd _ _) _ _); first
    | (refine' eb_and (b := false) ?k1 ?k2 ?k3; (case k1 => walk_at "eb"); (case k2 => intro z; cases z); (case k3 => intro _; rfl))
    | (refine' eb_and (b := true) ?k1 ?k2 ?k3; (case k1 => walk_at "eb"); (case k2 => intro _; walk_at "eb"); (case k3 => intro z; cases z)))
  | ((with_reducible show EB _ (tNot _) _ _); first | (refine' eb_not (b := true) ?k1 rfl; (case k1 => walk_at "eb")) | (refine' eb_not (b := false) ?k1 rfl; (case k1 => walk_at "eb")))
  | ((with_reducible show EB _ (tB _) _ _); refine' eb_val ?k1; (case k1 => walk_at "ev")))
local macro_rules | `(tactic| walk_at "rd") => `(tactic| first
  | ((with_reducible show RD _ (tRet _) _ _); refine' rd_ret ?k1; (case k1 => walk_at "ev"))
  | ((with_reducible show RD _ (tSeq (tIfS _ _ tNext) _) _ _); (first
    | ((with_reducible refine' rd_skip ?k1 ?k2); (case k1 => walk_at "eb"))
    | ((with_reducible refine' rd_take ?k1 ?k2); (case k1 => walk_at "eb"))); (walk_at "rd"))
  | ((with_reducible show RD _ (tIfS _ _ _) _ _); (first
    | ((with_reducible refine' rd_yes ?k1 ?k2); (case k1 => walk_at "eb"))
    | ((with_reducible refine' rd_no ?k1 ?k2); (case k1 => walk_at "eb"))); (walk_at "rd"))
  | ((with_reducible show RD _ (tSeq _ _) _ _); (with_reducible refine' rd_sn ?k1 ?k2); (case k1 => walk_at "nd"); (case k2 => walk_at "rd")))
local macro_rules | `(tactic| walk_at "nd") => `(tactic| first
  | ((with_reducible show ND _ tNext _ _); exact nd_next)
  | ((with_reducible show ND _ (tAsg _ _) _ _); refine' nd_asg ?k1; (case k1 => walk_at "ev"))
  | ((with_reducible show ND _ (tIfS _ _ _) _ _); (first
    | ((with_reducible refine' nd_yes ?k1 ?k2); (case k1 => walk_at "eb"))
    | ((with_reducible refine' nd_no ?k1 ?k2); (case k1 => walk_at "eb"))); (walk_at "nd"))
  | ((with_reducible show ND _ (tSeq _ _) _ _); (with_reducible refine' nd_sn ?k1 ?k2); (case k1 => walk_at "nd"); (case k2 => walk_at "nd")))
local macro_rules | `(tactic| walk_at "cl") => `(tactic| first | assumption | skip)
local macro_rules | `(tactic| walk_at "gv") => `(tactic| first
  | (refine' em_ed ?k1; (case k1 => walk_at "ev"))
  | ((with_reducible show GE _ _ (tFld _ _ _) _ _ _); first
    | (refine' ge_known ?kT ?k1 ?k2; (case kT => assumption); (case k1 => walk_at "gv"); (case k2 => assumption))
    | (refine' ge_core ?kT ?k1 ?k2; (case kT => assumption); (case k1 => walk_at "gv"); (case k2 => assumption))
    | (refine' ge_num ?kT ?k1 ?k2; (case kT => assumption); (case k1 => walk_at "gv"); (case k2 => assumption)))
  | ((with_reducible show GE _ _ (tOp (rIxL _) _ (tC (V.int 0))) _ _ _); refine' ge_ixL0 ?k1 ?k2 ?k3; (case k1 => walk_at "gv"); (case k2 => assumption); (case k3 => rfl))
  | ((with_reducible show GE _ _ (tOp (rIxL _) _ (tC (V.int 1))) _ _ _); refine' ge_ixL1 ?k1 ?k2 ?k3; (case k1 => walk_at "gv"); (case k2 => assumption); (case k3 => rfl))
  | ((with_reducible show GE _ _ (tOp (rIxL _) _ (tC (V.int 2))) _ _ _); refine' ge_ixL2 ?k1 ?k2 ?k3; (case k1 => walk_at "gv"); (case k2 => assumption); (case k3 => rfl))
  | ((with_reducible show GE _ _ (tOp (rIxT _) _ (tC (V.int 0))) _ _ _); refine' ge_ix0 ?k1 ?k2; (case k1 => walk_at "gv"); (case k2 => rfl))
  | ((with_reducible show GE _ _ (tOp (rIxT _) _ (tC (V.int 1))) _ _ _); refine' ge_ix1 ?k1 ?k2; (case k1 => walk_at "gv"); (case k2 => rfl))
  | ((with_reducible show GE _ _ (tOp (rIxT _) _ (tC (V.int 2))) _ _ _); refine' ge_ix2 ?k1 ?k2; (case k1 => walk_at "gv"); (case k2 => rfl))
  | ((with_reducible show GE _ _ (tTup _) _ _ _); refine' em_tup ?k1 ?k2; (case k1 => walk_at "gs"); (case k2 => exact Nat.le_of_ble_eq_true rfl))
  | ((with_reducible show GE _ _ (tMeth _ _ _ _ _ _ _) _ _ _); refine' ge_fit ?k1 ?k2 ?k3 ?k4; (case k1 => walk_at "gv"); (case k2 => assumption); (case k3 => walk_at "gs"); (case k4 => walk_at "cl"))
  | ((with_reducible show GE _ _ (tCall (spQ _ _) _ _ _) _ _ _); refine' ge_q ?k1 ?k2; (case k1 => walk_at "gs"); (case k2 => walk_at "cl"))
  | ((with_reducible show GE _ _ (tCall (spD _ _) _ _ _) _ _ _); refine' em_call ?k1 ?k2; (case k1 => walk_at "gs"); (case k2 => walk_at "cl")))
local macro_rules | `(tactic| walk_at "gs") => `(tactic| first
  | ((with_reducible show GEs _ _ tNil _ _ _ _); exact ems_nil)
  | ((with_reducible show GEs _ _ (tCons _ _) _ _ _ _); refine' ems_cons ?k1 ?k2; (case k1 => walk_at "gv"); (case k2 => walk_at "gs")))
local macro_rules | `(tactic| walk_at "gb") => `(tactic| first
  | (refine' bm_eb ?k1; (case k1 => walk_at "eb"))
  | ((with_reducible show GB _ _ (tTest (tOp (rEqD _) _ _)) _ _ _ _); first
    | (refine' gb_tyA ?k1 ?k2 ?k3 ?k4; (case k1 => walk_at "gv"); (case k2 => walk_at "gv"); (case k3 => first | rfl | decide +kernel | assumption); (case k4 => first | assumption | decide +kernel | omega))
    | (refine' gb_ty ?k1 ?k2 ?k3 ?k4 ?k5; (case k1 => walk_at "gv"); (case k2 => walk_at "gv"); (case k3 => first | assumption | rfl); (case k4 => first | assumption | decide +kernel | omega); (case k5 => first | assumption | decide +kernel | omega)))
  | ((with_reducible show GB _ _ (tTest (tOp rNe _ _)) _ _ _ _); refine' gb_neS ?k1 ?k2 ?k3; (case k1 => walk_at "gv"); (case k2 => walk_at "gv"); (case k3 => first | decide +kernel | assumption))
  | ((with_reducible show GB _ _ (tNot _) _ _ _ _); first | (refine' bm_not (b := true) ?k1 rfl; (case k1 => walk_at "gb")) | (refine' bm_not (b := false) ?k1 rfl; (case k1 => walk_at "gb")))
  | ((with_reducible show GB _ _ (tB _) _ _ _ _); refine' gb_val ?k1; (case k1 => walk_at "gv")))
local macro_rules | `(tactic| walk_at "gr") => `(tactic| first
  | ((with_reducible show GR _ _ (tRet _) _ _ _); refine' rr_ret ?k1; (case k1 => walk_at "gv"))
  | ((with_reducible show GR _ _ (tSeq (tIfS _ _ tNext) _) _ _ _); (first
    | ((with_reducible refine' rr_skip ?k1 ?k2); (case k1 => walk_at "gb"))
    | ((with_reducible refine' rr_take ?k1 ?k2); (case k1 => walk_at "gb"))); (walk_at "gr"))
  | ((with_reducible show GR _ _ (tSeq _ _) _ _ _); (with_reducible refine' rr_sn ?k1 ?k2); (case k1 => walk_at "gn"); (case k2 => walk_at "gr")))
local macro_rules | `(tactic| walk_at "gn") => `(tactic| first
  | ((with_reducible show GN _ _ tNext _ _ _ _); exact nm_next)
  | ((with_reducible show GN _ _ (tAsg _ (gName _)) _ _ _ _); refine' nm_asg ?k1; (case k1 => walk_at "gv"))
  | ((with_reducible show GN _ _ (tAsg _ _) _ _ _ _); refine' gn_up2 ?k1; (case k1 => walk_at "gv"))
  | ((with_reducible show GN _ _ (tIfS _ _ _) _ _ _ _); (first
    | ((with_reducible refine' nm_yes ?k1 ?k2); (case k1 => walk_at "gb"))
    | ((with_reducible refine' nm_no ?k1 ?k2); (case k1 => walk_at "gb"))); (walk_at "gn"))
  | ((with_reducible show GN _ _ (tSeq _ _) _ _ _ _); (with_reducible refine' nm_sn ?k1 ?k2); (case k1 => walk_at "gn"); (case k2 => walk_at "gn")))
/-- what is to be shown of the plain machine -/
def PlainLaw : Prop := ∀ A, ht A ≤ 2 → ∀ last, IsC A last → ∀ e, IsLoop A last e → ∃ M : Int × Int × Int, ∀ c : Int, 5 ≤ c → c ≤ 60 → dep (.call e (.num c)) ≤ DE ∧ ∃ pt m, el (.call e (.num c)) [] 0 = some (pt, m) ∧
  ∀ calls, c + 1 ≤ calls → ∃ k, Ends (fun u s => shV u = shW A last ∧ s.m0 = M.1 ∧ s.m1 = M.2.1 ∧ s.m2 = M.2.2) k (.ev pt.core .nil) (start calls)
section
variable {K : PySem.W.Frag} {a : Addr} {te ta tb : TE} {ds : Lo} {P : D → Prop} {d e : D} {S S' : LS}
theorem WL.sub {H : Hp} (h : WL K a S H) (hs : ∀ p ∈ S', p ∈ S) : WL K a S' H := by
  obtain ⟨b, k, ns, h1, h2, h3, h4, h5, h6⟩ := h
  exact ⟨b, k, ns, h1, h2, h3, h4, h5, fun p hp => h6 p (hs p hp)⟩
theorem wl_lst3 (h1 : ED K ta ds d) (h2 : GE K (WL K a) te ds S (fun d D' => P d ∧ D' = S)) (h3 : ED K tb ds e) (σ : L2.St) (H : Hp) (L : LoOk K H σ ds) (W : WL K a S H) (Q : VK)
    (q : ∀ p H' d2, P d2 → (∀ q ∈ S, q.1 ≠ p) → Tm K H H' → WL K a ((p, [d, d2, e]) :: S) H' → Q (.ref p) H') : tLst (tCons ta (tCons te (tCons tb tNil))) σ H Q :=
  h1 σ H L _ fun v1 H1 e1 r1 => h2 σ H1 (L.mono (Tm.ex e1)) (Gr.g e1 W) _ fun v2 H2 d2 s p tm2 W2 r2 => by
    obtain ⟨p, rfl⟩ := p
    have tm := (Tm.ex e1).trans tm2
    refine h3 σ H2 (L.mono tm) _ fun v3 H3 e3 r3 => ⟨(by show 3 ≤ sizeLine; decide), fun t nt => ?_⟩
    have W3 : WL K a s H3 := Gr.g e3 W2
    have ee : Ex H3 (upd H3 t (.lst [v1, v2, v3])) := Ex.new nt
    refine q t _ d2 p (fun y hy => ?_) ((tm.trans (Tm.ex e3)).trans (Tm.ex ee)) (W3.new nt (.cons ((r1.mono tm2).ex e3) (.cons (r2.ex e3) (.cons r3 .nil))))
    obtain ⟨b, k, ns, _, _, _, _, _, h6⟩ := W3
    obtain ⟨_, _, vs, z, _⟩ := h6 y hy
    exact ne_of_none z nt
end
theorem GE.wk {K : PySem.W.Frag} {S : Type} {Wd : S → Hp → Prop} {t : TE} {ds : Lo} {s : S} {P P' : D → S → Prop} (h : GE K Wd t ds s P) (hp : ∀ d s', P d s' → P' d s') : GE K Wd t ds s P' := fun σ H L W Q q => h σ H L W Q fun v H' d s' p => q v H' d s' (hp _ _ p)
abbrev lawLo (p a : Addr) (A : Ty) (last e : Sx) (r : Int) (Dl : Addr) : Lo := [some (.r p), some (.r a), some (Ty.d A), some (Sx.d last), some (Sx.d e), some (.i r), some (dueD A last), some (.r Dl), none, none, none]
theorem seq_for {K : PySem.W.Frag} {tl : TE} {g : TG} {tb u : TS} {De : L2.Ends} {σ : L2.St} {H : Hp} (h : tl σ H fun x H1 => ∃ a, x = .ref a ∧ (∃ xs, SqL K H1 a xs) ∧ ∃ W : Nat → Nat → L2.St → Hp → Prop, (∃ m, W 0 m σ H1) ∧ ∀ i m σ H, W i m σ H →
    ((Itl K a).stop i H ∧ u De σ H) ∨ ((Itl K a).go i H ∧ ∃ N : L2.St → Hp → Prop, (∀ σ' H', N σ' H' → ∃ m', m' < m ∧ W (i + 1) m' σ' H') ∧ ∀ x H', (Itl K a).yld i H x H' → g x σ H' fun σ2 H2 => tb { { De with nx := u De } with nx := N, ct := N, bk := u De } σ2 H2)) :
    tSeq (tFor (iList K tl) g tb) u De σ H := h
theorem gr_go {K : PySem.W.Frag} {S : Type} {Wd : S → Hp → Prop} {t u : TS} {De : L2.Ends} {σ : L2.St} {H : Hp} {ds : Lo} {s : S} {PS : D → S → Prop} (L : LoOk K H σ ds) (W : Wd s H) (q : ∀ v H' d s', PS d s' → Tm K H H' → Wd s' H' → Rep K H' d v → De.rt v H') (h : GR K Wd (tSeq t u) ds s PS) : tSeq t u De σ H := h De σ H L W q
def spLaw (K : PySem.W.Frag) : Sp := fun vs H Q _ => ∃ (p : Addr) (ns : List Int), vs = [.ref p] ∧ SqL K H p (ns.map V.int) ∧ ns.length ≤ 63 ∧ ∀ H', Q (.bl true) H'
theorem eqv_m (x y z : Int) : PyData.eqv (D.t [.i x, .i y, .i z]).py (D.t [.i x, .i y, .i z]).py = true := by
  simp [D.py, D.pys, PyData.eqv, PyData.eqvAll]
section
variable {P : Program} {w : World} {K : PySem.W.Frag} {mg : Str → Option Value} {base : Heap}
theorem run_law (T : Tx w K mg) (pl : PlainLaw) {fd : FuncData} (F : F_law K fd) : RunC P w K mg base (He.fAd K ("law", none)) fd ["_law_script"] (spLaw K) := by
  have c_law_state := ok_lstate (P := P) (base := base) T
  have c_law_type : C8.Cal P w K mg base 5 "_law_type" (spW K (RTy 3)) [] := ok_type T 3
  have c_law_constant : C8.Cal P w K mg base 5 "_law_constant" (spW K (RKo 3)) [] := ok_const T 3
  have c_law_loop := ok_loop (P := P) (base := base) T
  have c_law_take := ok_take (P := P) (base := base) T
  have c_law_shape := ok_shapeW (P := P) (base := base) T
  have c_elaborate := ok_elaborate (P := P) (base := base) T
  have c_run_measured := ok_run_measured (P := P) (base := base) T
  refine runC_of (k := 70) F sc_law ⟨rfl, by decide, by decide⟩ (fun vs H Q E h => ?_) fun cdv s H vs Q E hr h => ?_
  · obtain ⟨p, ns, rfl, _⟩ := h
    rfl
  obtain ⟨p, ns, rfl, hp, hn, q⟩ := h
  refine ⟨_, PSs.nox (pss_cons (ps_set (i := 1) sc_law.nd rfl (Or.inl rfl) (C8.pe_c c_law_state hr (by omega) rfl (pa_cons (pv 0) pa_nil)))
  (pss_cons (ps_set (i := 2) sc_law.nd rfl (Or.inl rfl) (C8.pe_c c_law_type hr (by omega) rfl (pa_cons (pv 1) (pa_cons pe_int pa_nil))))
  (pss_cons (ps_set (i := 3) sc_law.nd rfl (Or.inl rfl) (C8.pe_c c_law_constant hr (by omega) rfl (pa_cons (pv 1) (pa_cons (pv 2) (pa_cons pe_int pa_nil)))))
  (pss_cons (ps_set (i := 4) sc_law.nd rfl (Or.inl rfl) (C8.pe_c c_law_loop hr (by omega) rfl (pa_cons (pv 1) (pa_cons (pv 2) (pa_cons (pv 3) pa_nil)))))
  (pss_cons (ps_set (i := 5) sc_law.nd rfl (Or.inl rfl) (pe_op op_add pe_int (C8.pe_c c_law_take hr (by omega) rfl (pa_cons (pv 1) (pa_cons pe_int pa_nil)))))
  (pss_cons (ps_set (i := 6) sc_law.nd rfl (Or.inl rfl) (pe_tup (pa_cons (pe_tup pa_nil) (pa_cons (pe_tup (pa_cons pe_str (pa_cons (C8.pe_c c_law_shape hr (by omega) rfl (pa_cons (pv 2) (pa_cons (pv 3) pa_nil))) pa_nil))) pa_nil))))
  (pss_cons (ps_set (i := 7) sc_law.nd rfl (Or.inl rfl) (pe_lst pa_nil))
  (pss_cons (ps_for PassesOwn.never rfl (pi_list (pe_lst (pa_cons (pv 5) (pa_cons (pe_op op_add (pe_op op_add (pv 5) pe_int) (C8.pe_c c_law_take hr (by omega) rfl (pa_cons (pv 1) (pa_cons pe_int pa_nil)))) (pa_cons (pv 5) pa_nil))))) (pg_name (i := 8) sc_law.nd rfl (Or.inl rfl)) (pss_cons (ps_set (i := 9) sc_law.nd rfl (Or.inl rfl) (pe_ix ix_tup (C8.pe_c c_elaborate hr (by omega) rfl (pa_cons (pe_tup (pa_cons pe_str (pa_cons (pv 4) (pa_cons (pe_tup (pa_cons pe_str (pa_cons (pv 8) pa_nil))) pa_nil)))) pa_nil)) pe_int (fun _ _ => rfl)))
  (pss_cons (ps_set (i := 10) sc_law.nd rfl (Or.inl rfl) (C8.pe_c c_run_measured hr (by omega) rfl (pa_cons (pv 9) (pa_cons (pe_op op_add (pe_op op_add (pv 8) pe_int) (C8.pe_c c_law_take hr (by omega) rfl (pa_cons (pv 1) (pa_cons pe_int pa_nil)))) pa_nil))))
  (pss_cons (ps_if (pt_cmpR op_ne (pe_callB (call_rp rfl hr.units) (by rfl) (fr_repr T) (by decide +kernel) (pa_cons (pe_slice sl_tup (pv 10) po_none (po_some pe_int)) pa_nil)) (pe_callB (call_rp rfl hr.units) (by rfl) (fr_repr T) (by decide +kernel) (pa_cons (pv 6) pa_nil)) (nomark _)) (pss_one (ps_ret pe_bl)) pss_nil)
  (pss_one (ps_expr (pe_bm PySem.F.plainAttrs_list PySem.F.slot_list_append PySem.F.type_list_append mt_append (pv 7) (pa_cons (pe_ix ix_tup (pv 10) pe_int (fun _ _ => rfl)) pa_nil))))))))
  (pss_one (ps_ret (pe_and (pe_cmpR (op_eqD hr.units) (pe_ix ix_list (pv 7) pe_int (fun _ _ => rfl)) (pe_ix ix_list (pv 7) pe_int (fun _ _ => rfl)) (nomark _)) (pe_one (pe_cmpR (op_eqD hr.units) (pe_ix ix_list (pv 7) pe_int (fun _ _ => rfl)) (pe_ix ix_list (pv 7) pe_int (fun _ _ => rfl)) (nomark _)))))))))))))), ?_⟩
  refine ⟨_, rfl, p, ns, rfl, hp, hn, fun a H1 lw => ?_⟩
  have W1 : WL K a [] H1 := by
    obtain ⟨b, k, ns, A⟩ := lw
    exact ⟨b, k, ns, A.st, A.ce, A.ne, A.pos, A.lim, fun p hp => nomatch hp⟩
  have L1 : LoOk K H1 (List.set (L2.start ["_law_script", "_law_state_here", "_law_wanted", "_law_last", "_law_loop_here", "_law_rounds", "_law_due", "_law_measures", "_law_count", "_law_core", "_law_told"] [.ref p]) 1 (some (.ref a))) [some (.r p), some (.r a), none, none, none, none, none, none, none, none, none] := ⟨rfl, rfl, trivial⟩
  refine gr_go (PS := fun d _ => d = .b true) L1 W1 (fun v H' d s' k tm W' r => ?_) ?_
  · subst k
    have r' : v = .bl true := r
    subst r'
    exact q H'
  refine wr_asg (wl_call (i := 1) rfl (es_cons ed_i es_nil) ⟨2, rfl, by decide, rfl⟩) fun d hd => ?_
  obtain ⟨A, hA, rfl⟩ := hd
  refine wr_asg (wl_call rfl (es_cons (ed_var rfl) (es_cons ed_i es_nil)) ⟨A, 0, rfl, by omega, by omega, rfl⟩) fun d hd => ?_
  obtain ⟨last, hc, rfl⟩ := hd
  refine wr_asg (wl_call rfl (es_cons (ed_var rfl) (es_cons (ed_var rfl) es_nil)) ⟨A, last, rfl, hA, rfl⟩) fun d hd => ?_
  obtain ⟨e, he, rfl⟩ := hd
  refine wr_asg (wl_add ed_i (wl_call rfl (es_cons ed_i es_nil) ⟨26, rfl, by decide, by decide, rfl⟩) tkI) fun d hd => ?_
  obtain ⟨r, ⟨r', r0, r1, hr'⟩, rfl⟩ := hd
  cases hr'
  have qs : RSw [Ty.d A, Sx.d last] (shW A last) := ⟨A, last, rfl, hc, rfl⟩
  refine rr_sn (nm_nd (nd_asg (d := dueD A last) (ed_tup (es_cons (ed_tup es_nil (Nat.le_of_ble_eq_true rfl)) (es_cons (ed_tup (es_cons ed_s (es_cons (ed_call (es_cons (ed_var rfl) (es_cons (ed_var rfl) es_nil)) qs) es_nil)) (Nat.le_of_ble_eq_true rfl)) es_nil)) (Nat.le_of_ble_eq_true rfl)))) (wr_new fun Dl => ?_)
  obtain ⟨M, hM⟩ := pl A hA last hc e he
  obtain ⟨f1, f2, f3, f4, f5⟩ := due_ok hc
  have hr5 : (5 : Int) ≤ 5 + r ∧ (5 : Int) + r ≤ 30 := ⟨by omega, by omega⟩
  generalize hR : (5 : Int) + r = R at hr5
  obtain ⟨R5, R30⟩ := hr5
  show GR K (WL K a) _ (lawLo p a A last e R Dl) [(Dl, [])] _
  refine fun De σ H2 L2 W2 q2 => ?_
  refine seq_for ?_
  refine wl_lst3 (ta := tVar 5) (tb := tVar 5) (ds := lawLo p a A last e R Dl) (S := [(Dl, [])]) (d := .i R) (e := .i R) (P := fun d => ∃ c2 : Int, 5 ≤ c2 ∧ c2 ≤ 60 ∧ d = .i c2) (ed_var rfl) ?c2 (ed_var rfl) σ H2 L2 W2 _ fun Ll H3 d2 hd2 hne tm3 W3 => ?_
  case c2 =>
    refine GE.wk (wl_add (ed_add (ed_var rfl) ed_i) (wl_call rfl (es_cons ed_i es_nil) ⟨25, rfl, by decide, by decide, rfl⟩) tkI) fun d s' h => ?_
    obtain ⟨⟨z, ⟨z1, z2, z3, z4⟩, rfl⟩, rfl⟩ := h
    cases z4
    exact ⟨⟨_, by omega, by omega, rfl⟩, rfl⟩
  obtain ⟨c2, c5, c60, rfl⟩ := hd2
  have L3 := L2.mono tm3
  have W3' : WL K a [(Dl, []), (Ll, [.i R, .i c2, .i R])] H3 := W3.sub fun q hq => by
    simp only [List.mem_cons, List.not_mem_nil, or_false] at hq ⊢
    exact hq.symm
  have hDL : Ll ≠ Dl := (hne (Dl, []) (List.mem_cons_self ..)).symm
  have vsE : ∀ {H : Hp} {ms : List D}, WL K a [(Dl, ms), (Ll, [.i R, .i c2, .i R])] H → H Ll = some (.lst [.int R, .int c2, .int R]) := fun {H ms} w => by
    obtain ⟨b, k, ns, _, _, _, _, _, h6⟩ := w
    obtain ⟨_, _, vs, z3, z4⟩ := h6 (Ll, [.i R, .i c2, .i R]) (List.mem_cons_of_mem _ (List.mem_cons_self ..))
    obtain ⟨x1, r1, rfl, y1, x2, r2, rfl, y2, x3, r3, rfl, y3, y4⟩ := z4
    have y1' : x1 = .int R := y1
    have y2' : x2 = .int c2 := y2
    have y3' : x3 = .int R := y3
    have y4' : r3 = [] := y4
    subst y1' y2' y3' y4'
    exact z3
  have cnt : ∀ (i : Nat) (y : V), [V.int R, V.int c2, V.int R][i]? = some y → ∃ c : Int, y = V.int c ∧ 5 ≤ c ∧ c ≤ 60 := fun i y h => by
    match i, h with
    | 0, h => cases h; exact ⟨_, rfl, R5, by omega⟩
    | 1, h => cases h; exact ⟨_, rfl, c5, c60⟩
    | 2, h => cases h; exact ⟨_, rfl, R5, by omega⟩
    | n + 3, h => cases h
  refine ⟨Ll, rfl, ⟨_, SqL.of (vsE W3')⟩, for_it (D := { De with nx := _ }) (walk_list (K := K) (a := Ll) (xs := [.int R, .int c2, .int R])) (fun i σ' H' => LoOk K H' σ' (lawLo p a A last e R Dl) ∧ WL K a [(Dl, List.replicate i (.t [.i M.1, .i M.2.1, .i M.2.2])), (Ll, [.i R, .i c2, .i R])] H' ∧ Tm K H3 H') ⟨L3, W3', Tm.refl⟩ (fun i σ' H' _ inv => SqL.of (vsE inv.2.1)) (fun i y σ' H4 H5 hi inv hy => ?_) fun σ' H' inv => ?_⟩
  · obtain ⟨rfl, hy⟩ := hy
    obtain ⟨c, rfl, k5, k60⟩ := cnt i y hy
    obtain ⟨L4, W4, tm4⟩ := inv
    obtain ⟨hdep, pt, m, hel, hrun⟩ := hM c k5 k60
    have hi' : i < 3 := hi
    have L4' : LoOk K H5 (σ'.set 8 (some (.int c))) ((lawLo p a A last e R Dl).set 8 (some (.i c))) := L4.set (d := .i c) rfl 8
    have told : GE K (WL K a) _ (((lawLo p a A last e R Dl).set 8 (some (.i c))).set 9 (some (Co.d pt.core))) [(Dl, List.replicate i (.t [.i M.1, .i M.2.1, .i M.2.2])), (Ll, [.i R, .i c2, .i R])] (Is (.t [.t [], .t [.s "value", shW A last], .t [.i M.1, .i M.2.1, .i M.2.2]]) _) :=
      GE.wk (wl_run (ta := tVar 9) (E := C8.E0) (C := fun c' => c + 1 ≤ c') (ed_var rfl) (GE.wk (wl_add (ta := tOp (rI0 fun i j => V.int (i + j)) (tVar 8) (tC (V.int 1))) (ed_add (ed_var rfl) ed_i) (wl_call (Rc := RTk) (E := C8.E0) (i := 1) rfl (es_cons (ed_i (n := 4)) es_nil) ⟨4, rfl, by decide, by decide, rfl⟩) tkI) fun d s' h => by
        obtain ⟨⟨z, ⟨z1, z2, z3, z4⟩, rfl⟩, rfl⟩ := h
        cases z4
        exact ⟨⟨_, by omega, rfl⟩, rfl⟩) hrun) fun d s' h => by
        obtain ⟨⟨u, s, ⟨h1, h2, h3, h4⟩, rfl⟩, rfl⟩ := h
        refine ⟨?_, rfl⟩
        unfold toldD
        rw [h1, h2, h3, h4]
    have body := nm_sn (nm_asg (i := 9) (wl_elab (a := a) (S := [(Dl, List.replicate i (.t [.i M.1, .i M.2.1, .i M.2.2])), (Ll, [.i R, .i c2, .i R])]) (ds := (lawLo p a A last e R Dl).set 8 (some (.i c))) (e := .call e (.num c)) (E := C8.E0) (es_cons (te := tTup (tCons (tC (.str "call")) (tCons (tVar 4) (tCons (tTup (tCons (tC (.str "num")) (tCons (tVar 8) tNil))) tNil)))) (by walk_at "ev") es_nil) hdep hel)) (nm_sn (nm_asg (i := 10) told) (nm_sn (nm_no (t := tRet (tC (.bl false))) (bm_eb (eb_rp (K := K) (i := 10) (j := 6) (due := dueD A last) rfl rfl rfl f1 f2 f3 f4 f5)) nm_next) (wn_push (i := 7) (te := tOp (rIxT K) (tVar 10) (tC (.int 2))) (d := .t [.i M.1, .i M.2.1, .i M.2.2]) rfl (ed_ix2 (ed_var rfl) rfl) (by rw [List.length_replicate]; omega) (fun q hq => by
      simp only [List.mem_cons, List.not_mem_nil, or_false] at hq
      subst hq
      exact hDL))))
    refine body _ _ H5 L4' W4 fun σ6 H6 tm6 W6 L6 => ?_
    refine ⟨LoOk.forget (j := 8) rfl (LoOk.forget (j := 9) rfl (LoOk.forget (j := 10) rfl L6)), ?_, tm4.trans tm6⟩
    rw [List.replicate_succ']
    exact W6
  · obtain ⟨L4, W4, tm4⟩ := inv
    have W4' : WL K a [(Dl, [.t [.i M.1, .i M.2.1, .i M.2.2], .t [.i M.1, .i M.2.1, .i M.2.2], .t [.i M.1, .i M.2.1, .i M.2.2]]), (Ll, [.i R, .i c2, .i R])] H' := W4
    have fm : (D.t [.i M.1, .i M.2.1, .i M.2.2]).flat = true := rfl
    have dm : (D.t [.i M.1, .i M.2.1, .i M.2.2]).py.depth ≤ 64 := Nat.le_of_ble_eq_true (by kernel_rfl)
    have ix : ∀ (j : Nat) (n : Int), n = (j : Int) → [D.t [.i M.1, .i M.2.1, .i M.2.2], .t [.i M.1, .i M.2.1, .i M.2.2], .t [.i M.1, .i M.2.1, .i M.2.2]][j]? = some (.t [.i M.1, .i M.2.1, .i M.2.2]) → GE K (WL K a) (tOp (rIxL K) (tVar 7) (tC (.int n))) (lawLo p a A last e R Dl) [(Dl, [.t [.i M.1, .i M.2.1, .i M.2.2], .t [.i M.1, .i M.2.1, .i M.2.2], .t [.i M.1, .i M.2.1, .i M.2.2]]), (Ll, [.i R, .i c2, .i R])] (Is (.t [.i M.1, .i M.2.1, .i M.2.2]) _) := fun j n hn hj => wl_ix rfl (List.mem_cons_self ..) hj hn
    refine rr_ret (wl_andV (wl_eqV (ix 0 0 rfl rfl) (ix 1 1 rfl rfl) fm fm dm dm (eqv_m _ _ _)) (wl_eqV (ix 0 0 rfl rfl) (ix 2 2 rfl rfl) fm fm dm dm (eqv_m _ _ _))) _ _ H' L4 W4' fun v H8 d s' k tm W r => ?_
    exact q2 v H8 d s' k.1 ((tm3.trans tm4).trans tm) (k.2 ▸ W) r
end
end Hn
end

/- HnHead -/
section
set_option Elab.async false
set_option linter.all false
set_option maxRecDepth 100000
set_option maxHeartbeats 0
namespace Hn
open PySem PySem.Spec PyProof.Rows L2
theorem tx_of {w : World} {K : PySem.W.Frag} {h : Heap} {mg : Str → Option Value} (X : K.In h) (G : h.Ns mainGlobals mg) (c : He.SaysX fa fn tab [] exK w h K) : Tx w K mg := by
  have m := c.more
  obtain ⟨m1, m2⟩ := Bool.and_eq_true_iff.mp (show (gcs.all (gcon K) && gts.all (gtab K)) = true from m)
  refine ⟨c.t.d, fun i x e => He.glo_ok X G (c.t.d.fact i (f := .glo x) e), fun i x e => He.free_ok X G (c.t.d.fact i (f := .free x) e), He.int_ok X G (c.t.d.fact 50 (f := .int "HALF" 2147483648) rfl), He.glo_ok X G (c.t.d.fact 86 (f := .glo "GROUND_TYPES") rfl), fun i q e => ?_, fun i q e => ?_⟩
  · exact gcon_ok X G (List.all_eq_true.mp m1 q (List.mem_of_getElem? e))
  · exact gtab_ok (List.all_eq_true.mp m2 q (List.mem_of_getElem? e)) (c.t.tab 0)
end Hn
open PySem PySem.W PySem.Calls PyProof.Rows
theorem Hn.holds_of (pl : Hn.PlainLaw) : PySem.Challenge.rw_halfnoted_k29_loops_in_constant_space.Holds := by
  w_on; o_law
  refine HandSHeadRun.head_any (r := OpenLaw.row PySem.Challenge.rw_halfnoted_k29_loops_in_constant_space) (q := view (OpenLaw.row PySem.Challenge.rw_halfnoted_k29_loops_in_constant_space).prog [62]) (H := Hn.hk) (ob := Hn.ob) (M := 6000) (loose := Hn.loose) (d := HandSHeadRun.topDef (OpenLaw.row PySem.Challenge.rw_halfnoted_k29_loops_in_constant_space).prog 62) (kwd := []) Hn.ob_eq
    (by kernel_rfl) (fun s => by kernel_rfl) Hn.run (by kernel_rfl) (by kernel_rfl) (by kernel_rfl) (by rfl) (by first | assumption | decide +kernel) (by decide +kernel) ⟨rfl, rfl, rfl, rfl, rfl, by decide +kernel⟩ ?hw ?hc
  case hw => w_witness2
  case hc =>
    refine Hn.walkC (l := PySem.Challenge.rw_halfnoted_k29_loops_in_constant_space) (n := 63) (x := "_law_script") rfl (by decide) (by kernel_rfl) ?F
    intro w mg fa h Y G hmg0
    obtain ⟨K, KX, c⟩ := Y
    have T := Hn.tx_of KX G c
    have hmg : mg ("law" : PySem.Str) = some (.ref fa) := by
      have e : (HandSHeadRun.topDef (OpenLaw.row PySem.Challenge.rw_halfnoted_k29_loops_in_constant_space).prog 62).name = ("law" : PySem.Str) := by kernel_rfl
      rw [← e]
      exact hmg0
    have e := hmg.symm.trans (Hn.gl_law T)
    cases e
    obtain ⟨fd, F⟩ := Hn.D_law T
    exact ⟨K, fd, Hn.spLaw K, KX, fun s u => L2.FunD.bindsA (ps := ["_law_script"]) F Hn.bi_law s [u] rfl, fun H a ns hl hS => ⟨a, ns, rfl, hS, hl, fun _ => rfl⟩, fun base _ _ => Hn.run_law T pl F⟩
end

/- HnFin -/
section
set_option Elab.async false
set_option linter.all false
set_option maxRecDepth 100000
set_option maxHeartbeats 1000000
/-! Halfnoted, the plain law joined. -/
namespace Hn
open Pl
theorem el_const {A : Ty} {e : Sx} (h : IsC A e) : ht A ≤ 3 → ∀ (en : TEn) (c : Int), ∃ lc d, el e en c = some (⟨c, lc, A⟩, d) ∧ IsK A e lc := by
  induction h with
  | @fn A B e x h ih =>
    intro hA en c
    have hh : max (ht A) (ht B) + 1 ≤ 3 := hA
    obtain ⟨lc, d, e1, _⟩ := ih (by omega) ((x, A) :: en) (c + 1)
    exact ⟨_, d, el_fnc e1, .fn _ _ _⟩
  | @pr A B e f h g ih1 ih2 =>
    intro hA en c
    have hh : max (ht A) (ht B) + 1 ≤ 3 := hA
    obtain ⟨lc, d, e1, i1⟩ := ih1 (by omega) en (c + 1)
    obtain ⟨lc2, d2, e2, i2⟩ := ih2 (by omega) en d
    refine ⟨.pr lc lc2, d2, ?_, .pr i1 i2⟩
    show (el e en (c + 1)).bind _ = _
    rw [e1]
    show (el f en d).map _ = _
    rw [e2] <;> rfl
  | @bx A e h ih =>
    intro hA en c
    have hh : ht A + 1 ≤ 3 := hA
    obtain ⟨lc, d, e1, i1⟩ := ih (by omega) en (c + 1)
    refine ⟨.bx lc, d, ?_, .bx i1⟩
    show (el e en (c + 1)).map _ = _
    rw [e1] <;> rfl
  | any => exact fun _ en c => ⟨_, _, el_as (A := .bool) (T := .any) (k := c + 1) (ec := .flag true) (d := c + 1 + 1) rfl rfl (by decide) (by decide), .any _⟩
  | unit => exact fun _ en c => ⟨_, _, rfl, .unit⟩
  | bool => exact fun _ en c => ⟨_, _, rfl, .bool⟩
  | int i h0 h1 => exact fun _ en c => ⟨_, _, rfl, .int i⟩
theorem dep_c {A : Ty} {e : Sx} (h : IsC A e) : dep e ≤ ht A + 2 := by
  induction h with
  | @fn A B e x h ih => show dep e + 1 ≤ max (ht A) (ht B) + 1 + 2; omega
  | @pr A B e f h g i1 i2 => show max (dep e) (dep f) + 1 ≤ max (ht A) (ht B) + 1 + 2; omega
  | @bx A e h ih => show dep e + 1 ≤ ht A + 1 + 2; omega
  | any => exact Nat.le_of_ble_eq_true rfl
  | unit => exact Nat.le_of_ble_eq_true rfl
  | bool => exact Nat.le_of_ble_eq_true rfl
  | int i h0 h1 => exact (by decide : 1 ≤ 2)
theorem sh_VK {A : Ty} {e : Sx} {v : Va} (h : IsC A e) (hv : VK A e v) : shV v = shW A e ∧ sh0 v = shW A e := by
  cases h with
  | fn x h => obtain ⟨_, _, _, _, rfl⟩ := hv; exact ⟨rfl, rfl⟩
  | pr h g => obtain ⟨_, _, rfl⟩ := hv; exact ⟨rfl, rfl⟩
  | bx h => obtain ⟨_, rfl⟩ := hv; exact ⟨rfl, rfl⟩
  | any => have e : _ = _ := hv; subst e; exact ⟨rfl, rfl⟩
  | unit => have e : _ = _ := hv; subst e; exact ⟨rfl, rfl⟩
  | bool => have e : _ = _ := hv; subst e; exact ⟨rfl, rfl⟩
  | int i h0 h1 => have e : _ = _ := hv; subst e; exact ⟨rfl, rfl⟩
theorem sh_VS {A : Ty} {e : Sx} {u : Va} (h : IsC A e) (hv : VS A e u) : shV u = shW A e := by
  rcases hv with hv | ⟨v, c, rfl, hv⟩
  · exact (sh_VK h hv).1
  · exact (sh_VK h hv).2
theorem plain : PlainLaw := by
  intro A hA last hc e he
  obtain ⟨N, hN, h⟩ := he
  have hl := el_const hc (Nat.le_trans hA (by decide))
  have hd := dep_c hc
  have hA3 : ht A ≤ 3 := by omega
  have hA4 : ht A ≤ 4 := by omega
  rcases h with ⟨f, rfl⟩ | ⟨f, g, rfl⟩
  · obtain ⟨lc, k0, k1, k2, k3, hK, hel⟩ := el_loopA (f := f) hl hN hA3
    refine ⟨((mqs iA (evA A N last f 2 false)).a, (mqs iA (evA A N last f 2 false)).b, (mqs iA (evA A N last f 2 false)).c), fun c h5 h60 => ⟨?_, ?_⟩⟩
    · show max (dep (loop1 A N last f)) 1 + 1 ≤ 16
      cases f <;> simp [loop1, bodyX, dep] <;> omega
    · obtain ⟨m, hm⟩ := hel c
      refine ⟨_, m, hm, fun calls hcalls => ?_⟩
      obtain ⟨n, rfl⟩ := Int.eq_ofNat_of_zero_le (show 0 ≤ c by omega)
      exact mainA hK hA4 hN n (by omega) (by omega) calls hcalls fun u calls sto hu => ⟨sh_VS hc hu, rfl, rfl, rfl⟩
  · obtain ⟨l0, l1, l2, k0, k1, k2, k3, k4, k5, k6, k7, hK1, hK2, hel⟩ := el_loopB (f := f) (g := g) hl hN hA3
    refine ⟨((mqs (iB A N) (evB A N last f g 3 true false)).a, (mqs (iB A N) (evB A N last f g 3 true false)).b, (mqs (iB A N) (evB A N last f g 3 true false)).c), fun c h5 h60 => ⟨?_, ?_⟩⟩
    · show max (dep (loop2 A N last f g)) 1 + 1 ≤ 16
      cases f <;> cases g <;> simp [loop2, bodyX, dep] <;> omega
    · obtain ⟨m, hm⟩ := hel c
      refine ⟨_, m, hm, fun calls hcalls => ?_⟩
      obtain ⟨n, rfl⟩ := Int.eq_ofNat_of_zero_le (show 0 ≤ c by omega)
      exact mainB hK1 hK2 hA3 hN n (by omega) (by omega) calls hcalls fun u calls sto hu => ⟨sh_VS hc hu, rfl, rfl, rfl⟩
end Hn
open PySem.Challenge in
theorem PySem.Challenge.cw_halfnoted_k29_loops_in_constant_space_holds : PySem.Challenge.rw_halfnoted_k29_loops_in_constant_space.Holds :=
  Hn.holds_of Hn.plain
end

