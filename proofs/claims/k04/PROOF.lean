import PyProof.Rows.All
import Wide.All
import OpenK.AllK
import Wide.FinOn
import KE.KStateDown
import Lean
import HandS.Base
import HandS.Call
import HandS.List
import HandS.Comp
import HandS.Ends
import HandS.Dict
import HandS.Iter
import HandS.Text
import HandS.Exc
import HandS.Words
import HandS.WordsList
import HandS.WordsExc
import HandS.WordsDict
import HandS.Defaults
import HandS.More
import HandS.Flow
import HandS.Style
import HandS.IsInst
import HandS.ExcOwn
import HandS.Evl
import HandS.TupAny
import HandS.TupMul
import HandS.Set
import HandS.TupSets
import HandS.SetFor
import HandS.Head0
import HandS.Head1
import HandS.Head2
import HandS.HeadEnd
import HandS.HeadHook1
import HandS.HeadHook2
import HandS.HeadHook3
import HandS.HeadHook4
import HandS.TryOnly
import HandS.Lambda
import HandS.Conv
import HandS.RaiseMore
import PySem.Challenge.RW_leancells_k04_texts
set_option Elab.async false
set_option linter.all false
set_option maxRecDepth 100000
set_option maxHeartbeats 8000000
namespace LC
open PySem L2 Evl
abbrev Frag := PySem.W.Frag
/-! ### data in the heap: lists of the program's own, tuples of any -/
mutual
inductive Dt (K : Frag) (H : Hp) : V → PyData → Prop
  | non : Dt K H .non .none
  | bl (b : Bool) : Dt K H (.bl b) (.bool b)
  | int (i : Int) : Dt K H (.int i) (.int i)
  | str (x : Str) : Dt K H (.str x) (.str x)
  | lst {a : Addr} {xs : List V} {ds : List PyData} : H a = some (.lst xs) → DtAll K H xs ds → Dt K H (.ref a) (.list ds)
  | tup {a : Addr} {xs : List V} {ds : List PyData} : SqT K H a xs → DtAll K H xs ds → Dt K H (.ref a) (.tuple ds)
inductive DtAll (K : Frag) (H : Hp) : List V → List PyData → Prop
  | nil : DtAll K H [] []
  | cons {v : V} {vs : List V} {d : PyData} {ds : List PyData} : Dt K H v d → DtAll K H vs ds → DtAll K H (v :: vs) (d :: ds)
end
mutual
theorem dt_dp {K : Frag} {H : Hp} : ∀ (d : PyData) (v : V), Dt K H v d → Dp K H v d
  | .none, _, h => by cases h; exact .non
  | .bool b, _, h => by cases h; exact .bl b
  | .int i, _, h => by cases h; exact .int i
  | .str x, _, h => by cases h; exact .str x
  | .list ds, _, h => by
    cases h with
    | lst hs ha => exact .lst (sq_of hs) (dtAll_dp ds _ ha)
  | .tuple ds, _, h => by
    cases h with
    | tup hs ha => exact .tup hs (dtAll_dp ds _ ha)
  | .dict _, _, h => by cases h
theorem dtAll_dp {K : Frag} {H : Hp} : ∀ (ds : List PyData) (vs : List V), DtAll K H vs ds → DpAll K H vs ds
  | [], _, h => by cases h; exact .nil
  | d :: ds, _, h => by
    cases h with
    | cons h1 h2 => exact .cons (dt_dp d _ h1) (dtAll_dp ds _ h2)
end
/-! ### data stay where the heap only grows -/
mutual
theorem dp_ex {K : Frag} {H H' : Hp} (e : Ex H H') : ∀ (d : PyData) (v : V), Dt K H v d → Dt K H' v d
  | .none, _, h => by cases h; exact .non
  | .bool b, _, h => by cases h; exact .bl b
  | .int i, _, h => by cases h; exact .int i
  | .str x, _, h => by cases h; exact .str x
  | .list ds, _, h => by
    cases h with
    | lst hs ha => exact .lst (e _ _ hs) (dpAll_ex e ds _ ha)
  | .tuple ds, _, h => by
    cases h with
    | tup hs ha => exact .tup (ex_t e hs) (dpAll_ex e ds _ ha)
  | .dict _, _, h => by cases h
theorem dpAll_ex {K : Frag} {H H' : Hp} (e : Ex H H') : ∀ (ds : List PyData) (vs : List V), DtAll K H vs ds → DtAll K H' vs ds
  | [], _, h => by cases h; exact .nil
  | d :: ds, _, h => by
    cases h with
    | cons h1 h2 => exact .cons (dp_ex e d _ h1) (dpAll_ex e ds _ h2)
end
section
variable {K : Frag} {H H' : Hp}
theorem dpAll_len : ∀ {vs : List V} {ds : List PyData}, DtAll K H vs ds → vs.length = ds.length
  | _, _, .nil => rfl
  | _, _, .cons _ t => congrArg (· + 1) (dpAll_len t)
theorem dpAll_at : ∀ {vs : List V} {ds : List PyData} {i : Nat} {d : PyData}, DtAll K H vs ds → ds[i]? = some d → ∃ v, vs[i]? = some v ∧ Dt K H v d
  | _, _, _, _, .nil, e => by simp at e
  | _, _, 0, _, .cons h _, e => by simp at e; subst e; exact ⟨_, rfl, h⟩
  | _, _, i + 1, d, .cons _ t, e => by
    obtain ⟨v, h1, h2⟩ := dpAll_at (i := i) (d := d) t (by simpa using e)
    exact ⟨v, by simpa using h1, h2⟩
theorem dpAll_of : ∀ {vs : List V} {ds : List PyData} {i : Nat} {v : V}, DtAll K H vs ds → vs[i]? = some v → ∃ d, ds[i]? = some d ∧ Dt K H v d
  | _, _, _, _, .nil, e => by simp at e
  | _, _, 0, _, .cons h _, e => by simp at e; subst e; exact ⟨_, rfl, h⟩
  | _, _, i + 1, d, .cons _ t, e => by
    obtain ⟨v, h1, h2⟩ := dpAll_of (i := i) t (by simpa using e)
    exact ⟨v, by simpa using h1, h2⟩
theorem dpAll_app : ∀ {vs ws : List V} {ds es : List PyData}, DtAll K H vs ds → DtAll K H ws es → DtAll K H (vs ++ ws) (ds ++ es)
  | _, _, _, _, .nil, h => h
  | _, _, _, _, .cons a t, h => .cons a (dpAll_app t h)
theorem dpAll_drop : ∀ {vs : List V} {ds : List PyData} (n : Nat), DtAll K H vs ds → DtAll K H (vs.drop n) (ds.drop n)
  | _, _, 0, h => h
  | _, _, _ + 1, .nil => .nil
  | _, _, n + 1, .cons _ t => dpAll_drop n t
theorem dpAll_take : ∀ {vs : List V} {ds : List PyData} (n : Nat), DtAll K H vs ds → DtAll K H (vs.take n) (ds.take n)
  | _, _, 0, _ => .nil
  | _, _, _ + 1, .nil => .nil
  | _, _, n + 1, .cons a t => .cons a (dpAll_take n t)
theorem dpAll_one {v : V} {d : PyData} (h : Dt K H v d) : DtAll K H [v] [d] := .cons h .nil
theorem dp_tup {v : V} {ds : List PyData} (h : Dt K H v (.tuple ds)) : ∃ a xs, v = .ref a ∧ SqT K H a xs ∧ DtAll K H xs ds := by
  cases h with
  | tup hs ha => exact ⟨_, _, rfl, hs, ha⟩
theorem dp_lst {v : V} {ds : List PyData} (h : Dt K H v (.list ds)) : ∃ a xs, v = .ref a ∧ H a = some (.lst xs) ∧ DtAll K H xs ds := by
  cases h with
  | lst hs ha => exact ⟨_, _, rfl, hs, ha⟩
theorem dp_int {v : V} {i : Int} (h : Dt K H v (.int i)) : v = .int i := by cases h; rfl
theorem dp_str {v : V} {x : Str} (h : Dt K H v (.str x)) : v = .str x := by cases h; rfl
theorem dp_bool {v : V} {b : Bool} (h : Dt K H v (.bool b)) : v = .bl b := by cases h; rfl
theorem dp_none {v : V} (h : Dt K H v .none) : v = .non := by cases h; rfl
end
/-! ### what evaluates to which data -/
/-- H: where the data at hand lie; H1, H2: the heap ahead and behind; Hd: where the new data lie: among H's and what is new -/
structure Gr (H H1 H2 Hd : Hp) : Prop where
  ex : Ex H1 H2
  xd : Ex H Hd
  d2 : Ex Hd H2
  fr : ∀ a, H a = none → H1 a ≠ none → Hd a = none
theorem Gr.base {H H1 H2 : Hp} (a : Ex H H1) (b : Ex H1 H2) : Gr H H1 H2 H := ⟨b, Ex.refl H, a.trans b, fun _ h _ => h⟩
def join (A B : Hp) : Hp := fun a => match A a with
  | some o => some o
  | none => B a
theorem join_l {A B : Hp} : Ex A (join A B) := fun a o h => by unfold join; rw [h]
theorem join_r {A B C : Hp} (ha : Ex A C) (hb : Ex B C) : Ex B (join A B) := fun a o h => by
  unfold join
  cases q : A a with
  | none => exact h
  | some u =>
    have h1 := ha a u q
    have h2 := hb a o h
    rw [h1] at h2
    exact h2
theorem join_to {A B C : Hp} (ha : Ex A C) (hb : Ex B C) : Ex (join A B) C := fun a o h => by
  unfold join at h
  cases q : A a with
  | none => rw [q] at h; exact hb a o h
  | some u => rw [q] at h; cases h; exact ha a _ q
theorem ne_none {H H' : Hp} {a : Addr} (e : Ex H H') (h : H a ≠ none) : H' a ≠ none := by
  cases q : H a with
  | none => exact absurd q h
  | some o => rw [e a o q]; exact fun z => nomatch z
theorem Gr.join {H H1 H2 H3 A B : Hp} (x : Gr H H1 H2 A) (y : Gr H H2 H3 B) : Gr H H1 H3 (join A B) :=
  ⟨x.ex.trans y.ex, x.xd.trans join_l, join_to (x.d2.trans y.ex) y.d2, fun a h0 h1 => by
    have e1 := x.fr a h0 h1
    have e2 := y.fr a h0 (ne_none x.ex h1)
    unfold LC.join
    rw [e1]
    exact e2⟩
theorem Gr.more {H H1 H2 H3 A : Hp} (x : Gr H H1 H2 A) (e : Ex H2 H3) : Gr H H1 H3 A := ⟨x.ex.trans e, x.xd, x.d2.trans e, x.fr⟩
theorem Gr.after {H H1 H2 H3 A : Hp} (e : Ex H1 H2) (x : Gr H H2 H3 A) : Gr H H1 H3 A := ⟨e.trans x.ex, x.xd, x.d2, fun a h0 h1 => x.fr a h0 (ne_none e h1)⟩
/-- a new object for the data -/
theorem Gr.new {H H1 H2 Hd : Hp} {p : Addr} (o : HO) (x : Gr H H1 H2 Hd) (hp : H2 p = none) : Gr H H1 (upd H2 p o) (upd Hd p o) := by
  have hd : Hd p = none := fresh_back x.d2 hp
  refine ⟨x.ex.trans (Ex.new hp), x.xd.trans (Ex.new hd), fun a u h => ?_, fun a h0 h1 => ?_⟩
  · by_cases e : a = p
    · subst e
      rw [upd_same] at h ⊢
      exact h
    · rw [upd_ne e] at h ⊢
      exact x.d2 a u h
  · have e : a ≠ p := fun z => h1 (by rw [z]; exact fresh_back x.ex hp)
    rw [upd_ne e]
    exact x.fr a h0 h1
/-- what was known in a part is known in the whole -/
theorem Gr.wide {H0 H H1 H2 Hd : Hp} (e : Ex H0 H) (e1 : Ex H H1) (x : Gr H0 H1 H2 Hd) : Gr H H1 H2 (LC.join H Hd) :=
  ⟨x.ex, join_l, join_to (e1.trans x.ex) x.d2, fun a h0 h1 => by
    have q : H0 a = none := fresh_back e h0
    have z := x.fr a q h1
    unfold LC.join
    rw [h0]
    exact z⟩
theorem Gr.wide_r {H0 H H1 H2 Hd : Hp} (e1 : Ex H H1) (x : Gr H0 H1 H2 Hd) : Ex Hd (LC.join H Hd) := join_r (e1.trans x.ex) x.d2
/-- te comes to a value of the data d; the heap only grows -/
def EvD (K : Frag) (te : TE) (σ : L2.St) (H : Hp) (d : PyData) : Prop := ∀ H1, Ex H H1 → ∀ Q : VK, (∀ v H2 Hd, Gr H H1 H2 Hd → Dt K Hd v d → Q v H2) → te σ H1 Q
def EvDs (K : Frag) (ta : TA) (σ : L2.St) (H : Hp) (ds : List PyData) : Prop := ∀ H1, Ex H H1 → ∀ Q : List V → Hp → Prop, (∀ vs H2 Hd, Gr H H1 H2 Hd → DtAll K Hd vs ds → Q vs H2) → ta σ H1 Q
/-- a promise over data: from such arguments this comes, and the heap only grows -/
def spD (K : Frag) (F : List PyData → PyData → Prop) : Sp := fun vs H Q _ => ∃ ds d H0, Ex H0 H ∧ DtAll K H0 vs ds ∧ F ds d ∧ ∀ v H2 Hd, Gr H0 H H2 Hd → Dt K Hd v d → Q v H2
section
variable {K : Frag} {σ : L2.St} {H H' : Hp} {ta tb te tx : TE} {t u : TT} {d e : PyData}
theorem EvD.mono (x : Ex H H') (h : EvD K te σ H d) : EvD K te σ H' d := fun H1 a Q q => h H1 (x.trans a) Q fun v H2 Hd g hd => q v H2 _ (g.wide x a) (dp_ex (g.wide_r a) _ _ hd)
theorem EvDs.mono {ta : TA} {ds : List PyData} (x : Ex H H') (h : EvDs K ta σ H ds) : EvDs K ta σ H' ds := fun H1 a Q q => h H1 (x.trans a) Q fun v H2 Hd g hd => q v H2 _ (g.wide x a) (dpAll_ex (g.wide_r a) _ _ hd)
theorem evd_of {v : V} (h : Ev te σ H v) (hd : Dt K H v d) : EvD K te σ H d := fun H1 e Q q => h H1 e Q fun H2 e2 => q v H2 H (Gr.base e e2) hd
theorem evd_var {i : Nat} {v : V} (hd : Dt K H v d) (h : σ[i]? = some (some v) := by rfl) : EvD K (tVar i) σ H d := evd_of (ev_var h) hd
theorem evd_int {i : Int} : EvD K (tC (.int i)) σ H (.int i) := evd_of ev_c (.int i)
theorem evd_str {x : Str} : EvD K (tC (.str x)) σ H (.str x) := evd_of ev_c (.str x)
theorem evd_bl {b : Bool} : EvD K (tC (.bl b)) σ H (.bool b) := evd_of ev_c (.bl b)
theorem evd_non : EvD K (tC .non) σ H .none := evd_of ev_c .non
theorem evd_is {d' : PyData} (h : EvD K te σ H d) (e : d = d') : EvD K te σ H d' := e ▸ h
theorem ev_int {i : Int} (h : EvD K te σ H (.int i)) : Ev te σ H (.int i) := fun H1 e Q q => h H1 e Q fun v H2 Hd g hd => by rw [dp_int hd]; exact q H2 g.ex
theorem ev_str {x : Str} (h : EvD K te σ H (.str x)) : Ev te σ H (.str x) := fun H1 e Q q => h H1 e Q fun v H2 Hd g hd => by rw [dp_str hd]; exact q H2 g.ex
theorem ev_bl {b : Bool} (h : EvD K te σ H (.bool b)) : Ev te σ H (.bl b) := fun H1 e Q q => h H1 e Q fun v H2 Hd g hd => by rw [dp_bool hd]; exact q H2 g.ex
theorem evd_b {b : Bool} (h : Ev te σ H (.bl b)) : EvD K te σ H (.bool b) := evd_of h (.bl b)
theorem evd_i {i : Int} (h : Ev te σ H (.int i)) : EvD K te σ H (.int i) := evd_of h (.int i)
theorem evd_s {x : Str} (h : Ev te σ H (.str x)) : EvD K te σ H (.str x) := evd_of h (.str x)
theorem eds_nil : EvDs K tNil σ H [] := fun H1 e _ q => q [] H1 H (Gr.base e (Ex.refl H1)) .nil
theorem eds_cons {tr : TA} {ds : List PyData} (h : EvD K te σ H d) (hr : EvDs K tr σ H ds) : EvDs K (tCons te tr) σ H (d :: ds) := fun H1 e _ q =>
  h H1 e _ fun v H2 A g hd => hr H2 (e.trans g.ex) _ fun vs H3 B g2 hds => q (v :: vs) H3 _ (g.join g2) (.cons (dp_ex join_l _ _ hd) (dpAll_ex (join_r (g.d2.trans g2.ex) g2.d2) _ _ hds))
theorem evd_tup {ta : TA} {ds : List PyData} (h : EvDs K ta σ H ds) (hl : ds.length ≤ 100000) : EvD K (tTup ta) σ H (.tuple ds) := fun H1 e _ q =>
  h H1 e _ fun vs H2 Hd g hds => ⟨by rw [dpAll_len hds]; exact sz_of hl, fun p hp => q (.ref p) _ _ (g.new _ hp) (.tup (st_of upd_same) (dpAll_ex (Ex.new (fresh_back g.d2 hp)) _ _ hds))⟩
theorem evd_lst {ta : TA} {ds : List PyData} (h : EvDs K ta σ H ds) (hl : ds.length ≤ 100000) : EvD K (tLst ta) σ H (.list ds) := fun H1 e _ q =>
  h H1 e _ fun vs H2 Hd g hds => ⟨by rw [dpAll_len hds]; exact sz_of hl, fun p hp => q (.ref p) _ _ (g.new _ hp) (.lst upd_same (dpAll_ex (Ex.new (fresh_back g.d2 hp)) _ _ hds))⟩
theorem evd_call {F : List PyData → PyData → Prop} {ta : TA} {ds : List PyData} {E : XK} (h : EvDs K ta σ H ds) (hf : F ds d) : EvD K (tCall (spD K F) [] E ta) σ H d := fun H1 e Q q =>
  h H1 e _ fun vs H2 A g hds => ⟨ds, d, A, g.d2, by rw [List.append_nil]; exact hds, hf, fun v H3 B g2 hd => q v H3 B
    ⟨g.ex.trans g2.ex, g.xd.trans g2.xd, g2.d2, fun a h0 h1 => g2.fr a (g.fr a h0 h1) (ne_none g.ex h1)⟩ hd⟩
/-- tests -/
theorem et_tru {b : Bool} (h : EvD K te σ H d) (ht : ∀ v H1, Dt K H1 v d → TruV K v H1 b) : EvT (fun σ H Q => te σ H fun x H' => ∃ k, TruV K x H' k ∧ Q k H') σ H b := fun H1 e Q q =>
  h H1 e _ fun v H2 Hd g hd => ⟨b, ht v H2 (dp_ex g.d2 _ _ hd), q H2 g.ex⟩
theorem evd_if {b : Bool} (h : EvT t σ H b) (h1 : b = true → EvD K ta σ H d) (h2 : b = false → EvD K tb σ H d) : EvD K (tIf t ta tb) σ H d := fun H1 e Q q => h H1 e _ fun H2 e2 => by
  cases b with
  | true =>
    show ta σ H2 Q
    exact h1 rfl H2 (e.trans e2) Q fun v H3 Hd g => q v H3 Hd (g.after e2)
  | false =>
    show tb σ H2 Q
    exact h2 rfl H2 (e.trans e2) Q fun v H3 Hd g => q v H3 Hd (g.after e2)
/-! statements: H the heap as it is, H0 the part where the data lie -/
variable {D : Ends} {tu tw : TS} {H0 : Hp}
theorem s_retD (h : EvD K te σ H0 d) (x : Ex H0 H) (k : ∀ v H1 Hd, Gr H0 H H1 Hd → Dt K Hd v d → D.rt v H1) : tRet te D σ H := h H x _ k
theorem s_asgD {i : Nat} (h : EvD K te σ H0 d) (x : Ex H0 H) (k : ∀ v H1 Hd, Gr H0 H H1 Hd → Dt K Hd v d → D.nx (σ.set i (some v)) H1) : tAsg te (gName i) D σ H := h H x _ k
theorem s_dropD (h : EvD K te σ H0 d) (x : Ex H0 H) (k : ∀ v H1 Hd, Gr H0 H H1 Hd → Dt K Hd v d → D.nx σ H1) : tDrop te D σ H := h H x _ k
theorem s_ifD {b : Bool} (h : EvT t σ H0 b) (x : Ex H0 H) (h1 : b = true → ∀ H1, Ex H H1 → tu D σ H1) (h2 : b = false → ∀ H1, Ex H H1 → tw D σ H1) : tIfS t tu tw D σ H := h H x _ fun H1 e => by
  cases b with
  | true => exact h1 rfl H1 e
  | false => exact h2 rfl H1 e
end
end LC

namespace LC
open PySem L2 Evl
/-! ### universal operators: the reading chooses -/
def rOr (r s : R2) : R2 := fun x y H Q => r x y H Q ∨ s x y H Q
abbrev rPlusI : R2 := rI0 fun i j => .int (i + j)
def rPlusS : R2 := fun x y H Q => ∃ i j, x = .str i ∧ y = .str j ∧ i.length + j.length ≤ sizeLine ∧ Q (.str (i ++ j)) H
def rAddU (K : Frag) : R2 := rOr rPlusI (rOr rPlusS (rOr rCat (rCatA K)))
def rMulU (K : Frag) : R2 := rOr (rI CMul fun i j => .int (i * j)) (rOr rRep (rRepT K))
def rInU (K : Frag) (neg : Bool) : R2 := rOr (rIn K neg) (fun x y H Q => ∃ (c : Nat) (z : Str), x = .str ⟨#[c]⟩ ∧ y = .str z ∧ Q (.bl (if neg then !decide (c ∈ z.cps.toList) else decide (c ∈ z.cps.toList))) H)
def rSlU (K : Frag) : V → Option Int → Option Int → Hp → VK → Prop := fun x lo hi H Q => rSlL K x lo hi H Q ∨ rSlA K x lo hi H Q ∨ rSlS x lo hi H Q
def iSeq (K : Frag) (tl : TE) : TI := fun σ H R => iList K tl σ H R ∨ iTup K tl σ H R ∨ iStr tl σ H R
section
variable {X : Cx}
theorem opAdd : OpR X (binaryOp .Add) (rAddU X.K) := OpR.or op_add (OpR.or op_add_str (OpR.or op_cat op_catA))
theorem opMul : OpR X (binaryOp .Mult) (rMulU X.K) := OpR.or op_mul (OpR.or op_rep op_repT)
theorem opIn : OpR X (compareOp .In) (rInU X.K false) := OpR.or op_in_seq (by
  intro pins s σ H x y v u Q I rx ry h
  exact op_in_sign pins s σ H x y v u Q I rx ry h)
theorem opNotIn : OpR X (compareOp .NotIn) (rInU X.K true) := OpR.or op_notIn_seq (by
  intro pins s σ H x y v u Q I rx ry h
  exact op_notIn_sign pins s σ H x y v u Q I rx ry h)
theorem slU : SlR X (rSlU X.K) := SlR.or sl_list (SlR.or sl_tupA sl_str)
theorem pi_seq {tg e : Expr} {te : TE} (he : PE X e te) : PI X tg e (iSeq X.K te) := by
  refine ⟨fun pins s σ H R I h => ?_⟩
  rcases h with h | h | h
  · exact (pi_list he).run pins s σ H R I h
  · exact (pi_tup he).run pins s σ H R I h
  · exact (pi_str he).run pins s σ H R I h
end
/-! ### the type of data -/
def tyN : PyData → String
  | .none => "NoneType"
  | .bool _ => "bool"
  | .int _ => "int"
  | .str _ => "str"
  | .list _ => "list"
  | .tuple _ => "tuple"
  | .dict _ => "dict"
def isT (d : PyData) (T : String) : Bool := tyN d == T || (tyN d == "bool" && T == "int")
theorem kitB_all : ["NoneType", "bool", "int", "str", "list", "tuple", "dict"].all (fun a => ["bool", "int", "str", "list", "tuple", "dict"].all fun b => decide (kitB a b = some (a == b || (a == "bool" && b == "int")))) = true := by decide +kernel
theorem tyN_mem (d : PyData) : tyN d ∈ ["NoneType", "bool", "int", "str", "list", "tuple", "dict"] := by cases d <;> simp [tyN]
theorem kit_isT {K : Frag} (d : PyData) {T : String} (hT : T ∈ ["bool", "int", "str", "list", "tuple", "dict"]) : PySem.W.kitOne K (.type (tyN d)) (.type T) = some (isT d T) :=
  kit_ty (of_decide_eq_true (List.all_eq_true.mp (List.all_eq_true.mp kitB_all _ (tyN_mem d)) _ hT))
section
variable {K : Frag} {σ : L2.St} {H H' : Hp} {ta tb te tx : TE} {t u : TT} {d e : PyData}
theorem dp_ty {v : V} (h : Dt K H v d) : TyX K H v (.type (tyN d)) := by
  cases h with
  | non => exact .base .non
  | bl b => exact .base (.bl b)
  | int i => exact .base (.int i)
  | str x => exact .base (.str x)
  | lst hs _ => exact .base (.lst hs)
  | tup hs _ =>
    rcases hs with (hs | ⟨o, hs⟩) | ⟨o, its, n, hk, hc, _⟩
    · exact .base (.tup hs)
    · exact .fTuple hs
    · exact .kTuple hk hc
theorem ev_isi {T : String} (h : EvD K te σ H d) (hT : T ∈ ["bool", "int", "str", "list", "tuple", "dict"]) : Ev (tCB (rIsi K) (tCons te (tCons (tC (.ty T)) tNil))) σ H (.bl (isT d T)) := fun H1 e Q q =>
  h H1 e _ fun v H2 Hd g hd => ⟨v, .ty T, _, _, _, rfl, .ty T, dp_ty (dp_ex g.d2 _ _ hd), kit_isT d hT, q H2 g.ex⟩
/-! ints, texts -/
theorem ev_addI {i j : Int} (ha : EvD K ta σ H (.int i)) (hb : EvD K tb σ H (.int j)) : EvD K (tOp (rAddU K) ta tb) σ H (.int (i + j)) := evd_i (ev_op (ev_int ha) (ev_int hb) fun H1 _ _ q => .inl ⟨i, j, rfl, rfl, q H1 (Ex.refl H1)⟩)
theorem ev_I0 {g : Int → Int → V} {i j : Int} (ha : EvD K ta σ H (.int i)) (hb : EvD K tb σ H (.int j)) : Ev (tOp (rI0 g) ta tb) σ H (g i j) := ev_op (ev_int ha) (ev_int hb) rv_I0
theorem ev_I {C : Int → Int → Prop} {g : Int → Int → V} {i j : Int} (ha : EvD K ta σ H (.int i)) (hb : EvD K tb σ H (.int j)) (hc : C i j) : Ev (tOp (rI C g) ta tb) σ H (g i j) := ev_op (ev_int ha) (ev_int hb) (rv_I hc)
theorem evd_mulI {i j : Int} (ha : EvD K ta σ H (.int i)) (hb : EvD K tb σ H (.int j)) (hc : CMul i j) : EvD K (tOp (rMulU K) ta tb) σ H (.int (i * j)) := evd_i (ev_op (ev_int ha) (ev_int hb) fun H1 _ _ q => .inl ⟨i, j, rfl, rfl, hc, q H1 (Ex.refl H1)⟩)
/-! two data operands in a row -/
theorem evd_op {r : R2} {z : PyData} (ha : EvD K ta σ H d) (hb : EvD K tb σ H e) (hr : ∀ x y H1 A, Ex A H1 → Dt K A x d → Dt K A y e → ∀ Q : VK, (∀ v H2 B, Gr A H1 H2 B → Dt K B v z → Q v H2) → r x y H1 Q) : EvD K (tOp r ta tb) σ H z := fun H1 e1 Q q =>
  ha H1 e1 _ fun x H2 A g hx => hb H2 (e1.trans g.ex) _ fun y H3 B g2 hy => hr x y H3 _ (g.join g2).d2 (dp_ex join_l _ _ hx) (dp_ex (join_r (g.d2.trans g2.ex) g2.d2) _ _ hy) Q fun v H4 C g3 hv => q v H4 C
    ⟨(g.ex.trans g2.ex).trans g3.ex, (g.join g2).xd.trans g3.xd, g3.d2, fun a h0 h1 => g3.fr a ((g.join g2).fr a h0 h1) (ne_none (g.ex.trans g2.ex) h1)⟩ hv
theorem ev_opd {r : R2} {z : V} (ha : EvD K ta σ H d) (hb : EvD K tb σ H e) (hr : ∀ x y H1, Dt K H1 x d → Dt K H1 y e → ∀ Q : VK, Q z H1 → r x y H1 Q) : Ev (tOp r ta tb) σ H z := fun H1 e1 Q q =>
  ha H1 e1 _ fun x H2 A g hx => hb H2 (e1.trans g.ex) _ fun y H3 B g2 hy => hr x y H3 (dp_ex (g.d2.trans g2.ex) _ _ hx) (dp_ex g2.d2 _ _ hy) Q (q H3 (g.ex.trans g2.ex))
theorem ev_eq (ha : EvD K ta σ H d) (hb : EvD K tb σ H e) (hd : SeqAt.shaped d = true) (he : SeqAt.shaped e = true) : Ev (tOp (rEqD K) ta tb) σ H (.bl (PyData.eqv d e)) := ev_opd ha hb fun x y H1 hx hy Q q => ⟨d, e, dt_dp _ _ hx, dt_dp _ _ hy, hd, he, q⟩
theorem ev_ne (ha : EvD K ta σ H d) (hb : EvD K tb σ H e) (hd : SeqAt.shaped d = true) (he : SeqAt.shaped e = true) : Ev (tOp (rNeD K) ta tb) σ H (.bl (!PyData.eqv d e)) := ev_opd ha hb fun x y H1 hx hy Q q => ⟨d, e, dt_dp _ _ hx, dt_dp _ _ hy, hd, he, q⟩
/-- an item -/
theorem atI_dp {vs : List V} {ds : List PyData} {i : Int} {d : PyData} (h : DtAll K H vs ds) (e : atI ds i = some d) : ∃ v, atI vs i = some v ∧ Dt K H v d := by
  unfold atI at e ⊢
  rw [dpAll_len h]
  cases q : ixN ds.length i with
  | none => rw [q] at e; cases e
  | some j =>
    rw [q] at e
    exact dpAll_at h e
theorem evd_ixT {ds : List PyData} {i : Int} (ha : EvD K ta σ H (.tuple ds)) (hb : EvD K tb σ H (.int i)) (hi : atI ds i = some d) : EvD K (tOp (rIx K) ta tb) σ H d := evd_op ha hb fun x y H1 A e hx hy Q q => by
  obtain ⟨a, xs, rfl, hs, hall⟩ := dp_tup hx
  cases hy
  obtain ⟨v, hv, hd⟩ := atI_dp hall hi
  exact .inr (.inl ⟨a, xs, i, v, rfl, rfl, ex_t e hs, hv, q v H1 A (Gr.base e (Ex.refl H1)) hd⟩)
theorem evd_ixL {ds : List PyData} {i : Int} (ha : EvD K ta σ H (.list ds)) (hb : EvD K tb σ H (.int i)) (hi : atI ds i = some d) : EvD K (tOp (rIx K) ta tb) σ H d := evd_op ha hb fun x y H1 A e hx hy Q q => by
  obtain ⟨a, xs, rfl, hs, hall⟩ := dp_lst hx
  cases hy
  obtain ⟨v, hv, hd⟩ := atI_dp hall hi
  exact .inl ⟨a, xs, i, v, rfl, rfl, sq_of (e _ _ hs), hv, q v H1 A (Gr.base e (Ex.refl H1)) hd⟩
/-- len -/
theorem ev_lenT {ds : List PyData} (ha : EvD K ta σ H (.tuple ds)) : Ev (tCB (fun xs H Q => ∃ x n, xs = [x] ∧ LenV K x H n ∧ Q (.int n) H) (tCons ta tNil)) σ H (.int (ds.length : Int)) := fun H1 e Q q =>
  ha H1 e _ fun v H2 A g hd => by
    obtain ⟨a, xs, rfl, hs, hall⟩ := dp_tup hd
    exact ⟨_, ds.length, rfl, .inr ⟨xs, ex_t g.d2 hs, (dpAll_len hall).symm⟩, q H2 g.ex⟩
theorem ev_lenL {ds : List PyData} (ha : EvD K ta σ H (.list ds)) : Ev (tCB (fun xs H Q => ∃ x n, xs = [x] ∧ LenV K x H n ∧ Q (.int n) H) (tCons ta tNil)) σ H (.int (ds.length : Int)) := fun H1 e Q q =>
  ha H1 e _ fun v H2 A g hd => by
    obtain ⟨a, xs, rfl, hs, hall⟩ := dp_lst hd
    exact ⟨_, ds.length, rfl, .inl ⟨xs, sq_of (g.d2 _ _ hs), (dpAll_len hall).symm⟩, q H2 g.ex⟩
theorem ev_lenS {x : Str} (ha : EvD K ta σ H (.str x)) (hl : x.length ≤ sizeLine) : Ev (tCB (fun xs H Q => ∃ x n, xs = [x] ∧ LenV K x H n ∧ Q (.int n) H) (tCons ta tNil)) σ H (.int (x.length : Int)) := fun H1 e Q q =>
  ha H1 e _ fun v H2 A g hd => by
    rw [dp_str hd]
    exact ⟨_, x.length, rfl, ⟨hl, rfl⟩, q H2 g.ex⟩
/-- a slice -/
theorem eo_i {i : Int} (h : EvD K te σ H (.int i)) : EvO (tPart te) σ H (some i) := fun H1 e Q q => h H1 e _ fun v H2 A g hd => ⟨i, dp_int hd, q H2 g.ex⟩
def cutD (ds : List PyData) (lo hi : Option Int) : List PyData := (ds.drop (HT.sIx ds.length 0 lo)).take (HT.sIx ds.length ds.length hi - HT.sIx ds.length 0 lo)
theorem cutV_dp {vs : List V} {ds : List PyData} (h : DtAll K H vs ds) (lo hi : Option Int) : DtAll K H (cutV vs lo hi) (cutD ds lo hi) := by
  unfold cutV cutD
  rw [dpAll_len h]
  exact dpAll_take _ (dpAll_drop _ h)
theorem cut_whole {ds : List PyData} {lo hi : Option Int} (h : HT.sIx ds.length 0 lo = 0 ∧ HT.sIx ds.length ds.length hi = ds.length) : cutD ds lo hi = ds := by
  unfold cutD
  rw [h.1, h.2]
  simp
theorem evd_slT {ds : List PyData} {lo hi : TO} {l h : Option Int} (ha : EvD K ta σ H (.tuple ds)) (hl : EvO lo σ H l) (hh : EvO hi σ H h) : EvD K (tSl (rSlU K) ta lo hi) σ H (.tuple (cutD ds l h)) := fun H1 e Q q =>
  ha H1 e _ fun v H2 A g hd => hl H2 (e.trans g.ex) _ fun H3 e3 => hh H3 ((e.trans g.ex).trans e3) _ fun H4 e4 => by
    obtain ⟨a, xs, rfl, hs, hall⟩ := dp_tup hd
    have hl := dpAll_len hall
    have g4 : Gr H H1 H4 A := g.more (e3.trans e4)
    refine .inr (.inl ⟨a, xs, rfl, ex_t g4.d2 hs, fun hw => ?_, fun hw p hp => ?_⟩)
    · rw [hl] at hw
      refine q _ H4 A g4 ?_
      rw [cut_whole hw]
      exact .tup hs hall
    · exact q _ _ _ (g4.new _ hp) (.tup (st_of upd_same) (dpAll_ex (Ex.new (fresh_back g4.d2 hp)) _ _ (cutV_dp hall l h)))
theorem evd_slL {ds : List PyData} {lo hi : TO} {l h : Option Int} (ha : EvD K ta σ H (.list ds)) (hl : EvO lo σ H l) (hh : EvO hi σ H h) : EvD K (tSl (rSlU K) ta lo hi) σ H (.list (cutD ds l h)) := fun H1 e Q q =>
  ha H1 e _ fun v H2 A g hd => hl H2 (e.trans g.ex) _ fun H3 e3 => hh H3 ((e.trans g.ex).trans e3) _ fun H4 e4 => by
    obtain ⟨a, xs, rfl, hs, hall⟩ := dp_lst hd
    have g4 : Gr H H1 H4 A := g.more (e3.trans e4)
    exact .inl ⟨a, xs, rfl, sq_of (g4.d2 _ _ hs), fun p hp => q _ _ _ (g4.new _ hp) (.lst upd_same (dpAll_ex (Ex.new (fresh_back g4.d2 hp)) _ _ (cutV_dp hall l h)))⟩
/-- x in a sequence of flat things -/
def flatD : PyData → Bool
  | .none => true
  | .bool _ => true
  | .int _ => true
  | .str _ => true
  | _ => false
theorem flat_dp {v : V} (h : Dt K H v d) (f : flatD d = true) : flatV v = true := by
  cases h <;> first | rfl | cases f
theorem flats_dp : ∀ {vs : List V} {ds : List PyData}, DtAll K H vs ds → ds.all flatD = true → vs.all flatV = true
  | _, _, .nil, _ => rfl
  | _, _, .cons h t, f => by
    rw [List.all_cons, Bool.and_eq_true] at f ⊢
    exact ⟨flat_dp h f.1, flats_dp t f.2⟩
theorem eqV_dp {x y : V} {d e : PyData} (hx : Dt K H x d) (hy : Dt K H y e) (fd : flatD d = true) (fe : flatD e = true) : eqV x y = PyData.eqv d e := by
  cases hx <;> cases hy <;> first | (simp [flatD] at fd; done) | (simp [flatD] at fe; done) | rfl | (simp only [eqV, PyData.eqv]; done)
def inD (d : PyData) (ds : List PyData) : Bool := ds.any fun e => PyData.eqv e d
theorem inV_dp {x : V} {d : PyData} (hx : Dt K H x d) (fd : flatD d = true) : ∀ {vs : List V} {ds : List PyData}, DtAll K H vs ds → ds.all flatD = true → inV x vs = inD d ds
  | _, _, .nil, _ => rfl
  | _, _, .cons h t, f => by
    rw [List.all_cons, Bool.and_eq_true] at f
    show (eqV _ x || inV x _) = (PyData.eqv _ d || inD d _)
    rw [eqV_dp h hx f.1 fd, inV_dp hx fd t f.2]
theorem ev_inT {neg : Bool} {ds : List PyData} (ha : EvD K ta σ H d) (hb : EvD K tb σ H (.tuple ds)) (fd : flatD d = true) (fs : ds.all flatD = true) : Ev (tOp (rInU K neg) ta tb) σ H (.bl (if neg then !inD d ds else inD d ds)) := ev_opd ha hb fun x y H1 hx hy Q q => by
  obtain ⟨a, xs, rfl, hs, hall⟩ := dp_tup hy
  exact .inl ⟨a, xs, rfl, .inr hs, flat_dp hx fd, flats_dp hall fs, by rw [inV_dp hx fd hall fs]; exact q⟩
theorem ev_inL {neg : Bool} {ds : List PyData} (ha : EvD K ta σ H d) (hb : EvD K tb σ H (.list ds)) (fd : flatD d = true) (fs : ds.all flatD = true) : Ev (tOp (rInU K neg) ta tb) σ H (.bl (if neg then !inD d ds else inD d ds)) := ev_opd ha hb fun x y H1 hx hy Q q => by
  obtain ⟨a, xs, rfl, hs, hall⟩ := dp_lst hy
  exact .inl ⟨a, xs, rfl, .inl (sq_of hs), flat_dp hx fd, flats_dp hall fs, by rw [inV_dp hx fd hall fs]; exact q⟩
theorem ev_inS {neg : Bool} {c : Nat} {z : Str} (ha : EvD K ta σ H (.str ⟨#[c]⟩)) (hb : EvD K tb σ H (.str z)) : Ev (tOp (rInU K neg) ta tb) σ H (.bl (if neg then !decide (c ∈ z.cps.toList) else decide (c ∈ z.cps.toList))) := ev_opd ha hb fun x y H1 hx hy Q q => by
  cases hx
  cases hy
  exact .inr ⟨c, z, rfl, rfl, q⟩
/-- lists, tuples one behind the other -/
theorem evd_addT {ds es : List PyData} (ha : EvD K ta σ H (.tuple ds)) (hb : EvD K tb σ H (.tuple es)) (hl : ds.length + es.length ≤ 100000) : EvD K (tOp (rAddU K) ta tb) σ H (.tuple (ds ++ es)) := evd_op ha hb fun x y H1 A e hx hy Q q => by
  obtain ⟨a, xs, rfl, hs, h1⟩ := dp_tup hx
  obtain ⟨b, ys, rfl, ht, h2⟩ := dp_tup hy
  refine .inr (.inr (.inr ⟨a, b, xs, ys, rfl, rfl, ex_t e hs, ex_t e ht, by rw [dpAll_len h1, dpAll_len h2]; exact sz_of hl, fun z => ?_, fun _ z => ?_, fun _ _ p hp => ?_⟩))
  · subst z
    cases h1
    exact q _ H1 A (Gr.base e (Ex.refl H1)) (.tup ht h2)
  · subst z
    cases h2
    rw [List.append_nil] at q
    exact q _ H1 A (Gr.base e (Ex.refl H1)) (.tup hs h1)
  · exact q _ _ _ ((Gr.base e (Ex.refl H1)).new _ hp) (.tup (st_of upd_same) (dpAll_ex (Ex.new (fresh_back e hp)) _ _ (dpAll_app h1 h2)))
/-- two lists, both of their own (tracked) -/
theorem evd_addL {ds es : List PyData} (ha : EvD K ta σ H (.list ds)) (hb : EvD K tb σ H (.list es)) (hl : ds.length + es.length ≤ 100000) : EvD K (tOp (rAddU K) ta tb) σ H (.list (ds ++ es)) := evd_op ha hb fun x y H1 A e dx dy Q q => by
  obtain ⟨a, xs, rfl, hs, h1⟩ := dp_lst dx
  obtain ⟨b, ys, rfl, ht, h2⟩ := dp_lst dy
  refine .inr (.inr (.inl ⟨a, b, xs, ys, rfl, rfl, e _ _ hs, e _ _ ht, by rw [dpAll_len h1, dpAll_len h2]; exact sz_of hl, fun p hp => ?_⟩))
  exact q _ _ _ ((Gr.base e (Ex.refl H1)).new _ hp) (.lst upd_same (dpAll_ex (Ex.new (fresh_back e hp)) _ _ (dpAll_app h1 h2)))
end
end LC

namespace LC
open PySem L2 Evl
/-! ### a list that is being filled -/
/-- D, new behind H2, holds out; what it holds lies among A's data and what is new -/
def Acc (K : Frag) (A H2 : Hp) (D : Addr) (out : List PyData) (H' : Hp) : Prop := Ex H2 H' ∧ ∃ B acc, H' D = some (.lst acc) ∧ Ex A B ∧ Ex B H' ∧ B D = none ∧ (∀ a, A a = none → H2 a ≠ none → B a = none) ∧ DtAll K B acc out
section
variable {K : Frag} {A H H1 H2 H3 H4 H' H'' C Hd : Hp} {D : Addr} {out : List PyData} {d : PyData} {y : V}
theorem Acc.nil (e : Ex A H2) (hD : H2 D = none) : Acc K A H2 D [] (upd H2 D (.lst [])) :=
  ⟨Ex.new hD, A, [], upd_same, Ex.refl A, e.trans (Ex.new hD), fresh_back e hD, fun _ h _ => h, .nil⟩
theorem Acc.grow (h : Acc K A H2 D out H') (e : Ex H' H'') : Acc K A H2 D out H'' := by
  obtain ⟨x, B, acc, h1, h2, h3, h4, h5, h6⟩ := h
  exact ⟨x.trans e, B, acc, e _ _ h1, h2, h3.trans e, h4, h5, h6⟩
theorem Acc.at (h : Acc K A H2 D out H') : ∃ acc, H' D = some (.lst acc) ∧ acc.length = out.length := by
  obtain ⟨x, B, acc, h1, h2, h3, h4, h5, h6⟩ := h
  exact ⟨acc, h1, dpAll_len h6⟩
theorem Acc.base (h : Acc K A H2 D out H') : Ex A H' := by
  obtain ⟨x, B, acc, h1, h2, h3, h4, h5, h6⟩ := h
  exact h2.trans h3
theorem Acc.start (e : Ex A H2) (x : Ex H2 H') (hD : H2 D = none) (h : H' D = some (.lst [])) : Acc K A H2 D [] H' :=
  ⟨x, A, [], h, Ex.refl A, e.trans x, fresh_back e hD, fun _ h _ => h, .nil⟩
theorem Acc.rebase (h : Acc K A H2 D out H') (x : Ex A Hd) (y : Ex Hd H') (n : Hd D = none) : Acc K Hd H2 D out H' := by
  obtain ⟨x0, B, acc, h1, h2, h3, h4, h5, h6⟩ := h
  refine ⟨x0, join B Hd, acc, h1, join_r h3 y, join_to h3 y, by unfold join; rw [h4]; exact n, fun a ha hn => ?_, dpAll_ex join_l _ _ h6⟩
  have e1 := h5 a (fresh_back x ha) hn
  unfold join
  rw [e1]
  exact ha
theorem ex_upd {B H4 : Hp} {o : HO} (e : Ex B H4) (h : B D = none) : Ex B (upd H4 D o) := fun a u q => by
  rw [upd_ne (ne_of_none q h)]
  exact e a u q
/-- several at once -/
theorem Acc.push' {ys : List V} {ds : List PyData} (h : Acc K A H2 D out H3) (hA : A D = none) (hD : H2 D = none) (g : Gr A H3 H4 C) (hy : DtAll K C ys ds) :
    ∃ acc, H4 D = some (.lst acc) ∧ acc.length = out.length ∧ Acc K A H2 D (out ++ ds) (upd H4 D (.lst (acc ++ ys))) := by
  obtain ⟨x, B, acc, h1, h2, h3, h4, h5, h6⟩ := h
  have cD : C D = none := g.fr D hA (by rw [h1]; exact fun z => nomatch z)
  have bj : Ex B (join B C) := join_l
  have cj : Ex C (join B C) := join_r (h3.trans g.ex) g.d2
  have jD : join B C D = none := by unfold join; rw [h4]; exact cD
  refine ⟨acc, g.ex _ _ h1, dpAll_len h6, Ex.mut (x.trans g.ex) hD, join B C, acc ++ ys, upd_same, h2.trans bj, ex_upd (join_to (h3.trans g.ex) g.d2) jD, jD, fun a h0 hn => ?_, dpAll_app (dpAll_ex bj _ _ h6) (dpAll_ex cj _ _ hy)⟩
  have e1 := h5 a h0 hn
  have e2 := g.fr a h0 (ne_none x hn)
  unfold join
  rw [e1]
  exact e2
theorem Acc.push (h : Acc K A H2 D out H3) (hA : A D = none) (hD : H2 D = none) (g : Gr A H3 H4 C) (hy : Dt K C y d) :
    ∃ acc, H4 D = some (.lst acc) ∧ acc.length = out.length ∧ Acc K A H2 D (out ++ [d]) (upd H4 D (.lst (acc ++ [y]))) := h.push' hA hD g (.cons hy .nil)
theorem Acc.done (h : Acc K A H2 D out H') (xd : Ex H A) (fr : ∀ a, H a = none → H1 a ≠ none → A a = none) (ex : Ex H1 H2) (hD : H2 D = none) : ∃ Hd, Gr H H1 H' Hd ∧ Dt K Hd (.ref D) (.list out) := by
  obtain ⟨x, B, acc, h1, h2, h3, h4, h5, h6⟩ := h
  refine ⟨upd B D (.lst acc), ⟨ex.trans x, (xd.trans h2).trans (Ex.new h4), fun a u q => ?_, fun a h0 hn => ?_⟩, .lst upd_same (dpAll_ex (Ex.new h4) _ _ h6)⟩
  · by_cases e : a = D
    · subst e
      rw [upd_same] at q
      cases q
      exact h1
    · rw [upd_ne e] at q
      exact h3 a u q
  · have ne : a ≠ D := fun z => hn (by rw [z]; exact fresh_back ex hD)
    rw [upd_ne ne]
    exact h5 a (fr a h0 hn) (ne_none ex hn)
end
/-! ### comprehensions over data -/
section
variable {K : Frag} {σ : L2.St} {H : Hp} {te tl : TE} {tt : TT} {j : Nat} {vs : List Nat}
theorem lc_turn {A H2 H' : Hp} {D : Addr} {out : List PyData} {σ2 : L2.St} {b : Bool} {z : PyData} (e : Ex A H2) (hD : H2 D = none) (p : Acc K A H2 D out H') (hl : out.length < 50000) (ht : EvT tt σ2 A b) (he : b = true → EvD K te σ2 A z) :
    tt σ2 H' fun b' H3 => if b' = true then te σ2 H3 fun y H4 => ∃ acc, H4 D = some (.lst acc) ∧ acc.length < sizeLine ∧ Acc K A H2 D (if b then out ++ [z] else out) (upd H4 D (.lst (acc ++ [y]))) else Acc K A H2 D (if b then out ++ [z] else out) H3 := by
  refine ht H' (p.base) _ fun H3 e3 => ?_
  cases b with
  | true =>
    show te σ2 H3 _
    refine he rfl H3 ((p.base).trans e3) _ fun y H4 C g hy => ?_
    obtain ⟨acc, h1, h2, h3⟩ := (p.grow e3).push (fresh_back e hD) hD g hy
    exact ⟨acc, h1, sz_lt (by omega), h3⟩
  | false => exact p.grow e3
theorem take_snoc {ds : List PyData} {i : Nat} {d : PyData} (h : ds[i]? = some d) : ds.take (i + 1) = ds.take i ++ [d] := by
  rw [List.take_add_one, h] <;> rfl
theorem out_snoc {ds : List PyData} {i : Nat} {d : PyData} (f : PyData → Bool) (g : PyData → PyData) (h : ds[i]? = some d) :
    ((ds.take (i + 1)).filter f).map g = if f d then ((ds.take i).filter f).map g ++ [g d] else ((ds.take i).filter f).map g := by
  rw [take_snoc h, List.filter_append, List.map_append]
  cases q : f d with
  | true => simp [q]
  | false => simp [q]
theorem out_len {ds : List PyData} (f : PyData → Bool) (g : PyData → PyData) (i : Nat) : (((ds.take i).filter f).map g).length ≤ ds.length := by
  rw [List.length_map]
  refine Nat.le_trans (List.length_filter_le _ _) ?_
  rw [List.length_take]
  omega
theorem evd_lcT {ds : List PyData} (f : PyData → Bool) (g : PyData → PyData) (h : EvD K tl σ H (.tuple ds)) (hz : ds.length ≤ 40000) (hw : ∀ x, wipe ((wipe σ vs).set j (some x)) vs = wipe σ vs)
    (ht : ∀ x d H1, Ex H H1 → d ∈ ds → Dt K H1 x d → EvT tt ((wipe σ vs).set j (some x)) H1 (f d)) (he : ∀ x d H1, Ex H H1 → d ∈ ds → f d = true → Dt K H1 x d → EvD K te ((wipe σ vs).set j (some x)) H1 (g d)) :
    EvD K (tLc (iSeq K tl) (gName j) tt te vs) σ H (.list ((ds.filter f).map g)) := fun H1 e Q q => by
  refine .inr (.inl (h H1 e _ fun v H2 A gr hd => ?_))
  obtain ⟨a, xs, rfl, hs, hall⟩ := dp_tup hd
  refine ⟨a, rfl, ⟨xs, ex_t gr.d2 hs⟩, fun D hD => ?_⟩
  refine lc_tup (K := K) (a := a) (xs := xs) (fun i H' => Acc K A H2 D (((ds.take i).filter f).map g) H') (Acc.nil gr.d2 hD) (fun i H' _ p => ex_t (p.base) hs) (fun i x H' hi p => ?_) fun H' p => ?_
  · obtain ⟨d, hdi, hx⟩ := dpAll_of hall hi
    have hm : d ∈ ds := List.mem_of_getElem? hdi
    have hl := out_len (ds := ds) f g i
    refine ⟨hw x, ?_⟩
    rw [out_snoc f g hdi]
    exact lc_turn gr.d2 hD p (by omega) (ht x d A gr.xd hm hx) (fun hf => he x d A gr.xd hm hf hx)
  · have p2 : Acc K A H2 D (((ds.take xs.length).filter f).map g) H' := p
    rw [dpAll_len hall, List.take_length] at p2
    obtain ⟨Hd, g1, g2⟩ := p2.done gr.xd gr.fr gr.ex hD
    exact q _ H' Hd g1 g2
theorem evd_lcL {ds : List PyData} (f : PyData → Bool) (g : PyData → PyData) (h : EvD K tl σ H (.list ds)) (hz : ds.length ≤ 40000) (hw : ∀ x, wipe ((wipe σ vs).set j (some x)) vs = wipe σ vs)
    (ht : ∀ x d H1, Ex H H1 → d ∈ ds → Dt K H1 x d → EvT tt ((wipe σ vs).set j (some x)) H1 (f d)) (he : ∀ x d H1, Ex H H1 → d ∈ ds → f d = true → Dt K H1 x d → EvD K te ((wipe σ vs).set j (some x)) H1 (g d)) :
    EvD K (tLc (iSeq K tl) (gName j) tt te vs) σ H (.list ((ds.filter f).map g)) := fun H1 e Q q => by
  refine .inl (h H1 e _ fun v H2 A gr hd => ?_)
  obtain ⟨a, xs, rfl, hs, hall⟩ := dp_lst hd
  refine ⟨a, rfl, ⟨xs, sq_of (gr.d2 _ _ hs)⟩, fun D hD => ?_⟩
  refine lc_list (K := K) (a := a) (xs := xs) (fun i H' => Acc K A H2 D (((ds.take i).filter f).map g) H') (Acc.nil gr.d2 hD) (fun i H' _ p => sq_of (p.base _ _ hs)) (fun i x H' hi p => ?_) fun H' p => ?_
  · obtain ⟨d, hdi, hx⟩ := dpAll_of hall hi
    have hm : d ∈ ds := List.mem_of_getElem? hdi
    have hl := out_len (ds := ds) f g i
    refine ⟨hw x, ?_⟩
    rw [out_snoc f g hdi]
    exact lc_turn gr.d2 hD p (by omega) (ht x d A gr.xd hm hx) (fun hf => he x d A gr.xd hm hf hx)
  · have p2 : Acc K A H2 D (((ds.take xs.length).filter f).map g) H' := p
    rw [dpAll_len hall, List.take_length] at p2
    obtain ⟨Hd, g1, g2⟩ := p2.done gr.xd gr.fr gr.ex hD
    exact q _ H' Hd g1 g2
/-- over a range -/
theorem evd_lcR {ta : TA} {n : Nat} (g : Nat → PyData) (h : EvDs K ta σ H [.int (n : Int)]) (hz : n ≤ 40000) (hw : ∀ x, wipe ((wipe σ vs).set j (some x)) vs = wipe σ vs)
    (he : ∀ i H1, Ex H H1 → i < n → EvD K te ((wipe σ vs).set j (some (.int (i : Int)))) H1 (g i)) :
    EvD K (tLc (iRng1 ta) (gName j) tYes te vs) σ H (.list ((List.range n).map g)) := fun H1 e Q q => h H1 e _ fun ws H2 A gr hd => by
  obtain rfl : ws = [.int (n : Int)] := by
    cases hd with
    | cons h1 h2 => cases h2; rw [dp_int h1]
  refine ⟨n, rfl, by omega, by omega, fun D hD => ?_⟩
  refine lc_range (lo := 0) (n := (n : Int).toNat) (fun i H' => Acc K A H2 D ((List.range i).map g) H') (Acc.nil gr.d2 hD) (fun i H' hi p => ?_) fun H' p => ?_
  · have e0 : (0 : Int) + (i : Int) = (i : Int) := Int.zero_add _
    have hi2 : i < n := by omega
    have key := lc_turn (b := true) (tt := tYes) (te := te) (σ2 := (wipe σ vs).set j (some (.int (i : Int)))) gr.d2 hD p (by rw [List.length_map, List.length_range]; omega) (fun H1 _ _ q => q H1 (Ex.refl H1)) (fun _ => he i A gr.xd hi2)
    have e1 : (List.range (i + 1)).map g = (List.range i).map g ++ [g i] := by rw [List.range_succ, List.map_append] <;> rfl
    show gName j (.int ((0 : Int) + (i : Int))) (wipe σ vs) H' _
    rw [e0]
    refine ⟨hw _, ?_⟩
    rw [e1]
    exact key
  · have p2 : Acc K A H2 D ((List.range (n : Int).toNat).map g) H' := p
    rw [Int.toNat_natCast] at p2
    obtain ⟨Hd, g1, g2⟩ := p2.done gr.xd gr.fr gr.ex hD
    exact q _ H' Hd g1 g2
end
/-! ### a def by its name -/
/-- the module's x is a def that keeps sp -/
def Has (P : Program) (w : World) (K : Frag) (mg : Str → Option Value) (base : Heap) (CX : CXT) (k : Nat) (x : Str) (ps : List Str) (sp : Sp) : Prop :=
  ∃ f fd, FnOk P w K mg base CX k f fd ps sp ∧ Binds K fd ps [] ∧ PySem.W.keepIn K (.ref f) = true ∧ mg x = some (.ref f)
section
variable {X : Cx} {CX : CXT} {k j : Nat} {x : Str} {ps : List Str} {sp : Sp} {E : XK} {p pos : Pos} {e : Expr} {es : List Expr} {t : TA}
theorem pe_has (F : Has X.prog X.w X.K X.mg X.base CX k x ps sp) (hr : Room j X.A) (hk : k ≤ j) (hg : Gl X x) (hx : Passes CX X E) (ha : PA X (e :: es) t) (hdb : (x == ("__debug__" : Str)) = false := by decide)
    (he : starEach (e :: es) X.env = (false, eval e X.env) :: starEach es X.env := by rfl) (hpl : (backTo pos (starEach es X.env)).any (·.1) = false := by rfl) : PE X (.Call (.Name x p) (e :: es) [] pos) (tCall sp [] E t) := by
  obtain ⟨f, fd, G, b, kp, m⟩ := F
  exact pe_call G (hr.mono hk) hg m kp b .nil hx ha hdb he hpl
theorem pe_has0 (F : Has X.prog X.w X.K X.mg X.base CX k x ps sp) (hr : Room j X.A) (hk : k ≤ j) (hg : Gl X x) (hx : Passes CX X E) (hdb : (x == ("__debug__" : Str)) = false := by decide) : PE X (.Call (.Name x p) [] [] pos) (tCall sp [] E tNil) := by
  obtain ⟨f, fd, G, b, kp, m⟩ := F
  exact pe_call0 G (hr.mono hk) hg m kp b .nil hx hdb
end
end LC

namespace LC
open PySem L2 Evl
/-! ### the rules with the written part named (so that a block's reading does not speak of the block) -/
def freeN : List Str := ["len", "isinstance", "range", "tuple", "sorted", "set", "int", "str", "bool", "list", "min", "zip", "enumerate", "dict", "ValueError"]
structure Tx (mg : Str → Option Value) : Prop where
  free : ∀ {x : Str}, x ∈ freeN → mg x = none
abbrev rLenU (K : Frag) : List V → Hp → VK → Prop := fun xs H Q => ∃ x n, xs = [x] ∧ LenV K x H n ∧ Q (.int n) H
abbrev rTupU (K : Frag) : List V → Hp → VK → Prop := fun xs H Q => ∃ p ys, xs = [.ref p] ∧ ((SqL K H p ys ∧ ∀ l, H l = none → Q (.ref l) (upd H l (.tup ys))) ∨ (SqT K H p ys ∧ Q (.ref p) H))
abbrev rLstU (K : Frag) : List V → Hp → VK → Prop := fun xs H Q => ∃ p ys, xs = [.ref p] ∧ (SqL K H p ys ∨ SqT K H p ys) ∧ ∀ l, H l = none → Q (.ref l) (upd H l (.lst ys))
abbrev tTrU (K : Frag) (ta : TE) : TT := fun σ H Q => ta σ H fun x H' => ∃ k, TruV K x H' k ∧ Q k H'
section
variable {X : Cx} {K : Frag} {a : Expr} {ta : TE} {pos : Pos} {x : Str}
theorem kAdd (h : X.K = K) : OpR X (binaryOp .Add) (rAddU K) := h ▸ opAdd
theorem kMul (h : X.K = K) : OpR X (binaryOp .Mult) (rMulU K) := h ▸ opMul
theorem kIn (h : X.K = K) : OpR X (compareOp .In) (rInU K false) := h ▸ opIn
theorem kNotIn (h : X.K = K) : OpR X (compareOp .NotIn) (rInU K true) := h ▸ opNotIn
theorem kEq (h : X.K = K) (hu : X.A.units + 64 < cLine) : OpR X (compareOp .Eq) (rEqD K) := h ▸ op_eqD hu
theorem kNe (h : X.K = K) (hu : X.A.units + 64 < cLine) : OpR X (compareOp .NotEq) (rNeD K) := h ▸ op_neD hu
theorem kSl (h : X.K = K) : SlR X (rSlU K) := h ▸ slU
theorem kIx (h : X.K = K) : IxR X (rIx K) := h ▸ ix_seq
theorem kSeq {tg : Expr} (h : X.K = K) (he : PE X a ta) : PI X tg a (iSeq K ta) := h ▸ pi_seq he
theorem kLen (h : X.K = K) : CallR X (.builtin "len") (rLenU K) := h ▸ call_len
theorem kIsi (h : X.K = K) : CallR X (.builtin "isinstance") (rIsi K) := h ▸ call_isi
theorem kTup (h : X.K = K) : CallR X (.type "tuple") (rTupU K) := h ▸ call_tuple_of
theorem kLst (h : X.K = K) : CallR X (.type "list") (rLstU K) := h ▸ call_list_of
theorem kTruth (h : X.K = K) (ha : PE X a ta) (he : ∀ whole, isTrue a X.env whole = (do let v ← whole; standAt a.pos; holding [v] (truthy v)) := by intro _; rfl) : PT X a (tTrU K ta) := h ▸ pt_truth ha he
theorem kNot (h : X.K = K) (ha : PE X a ta) : PE X (.UnaryOp .Not a pos) (tNotT K ta) := h ▸ pe_notT ha
theorem pe_gint {i : Int} (h : ∃ t, X.mg x = some (.int i t)) (hg : Gl X x := by rfl) (hd : (x == ("__debug__" : Str)) = false := by decide) : PE X (.Name x pos) (tC (.int i)) := by
  obtain ⟨t, h⟩ := h
  exact pe_glob hg h ⟨t, rfl⟩ hd
theorem pe_gstr {z : Str} (h : ∃ t, X.mg x = some (.str z t)) (hg : Gl X x := by rfl) (hd : (x == ("__debug__" : Str)) = false := by decide) : PE X (.Name x pos) (tC (.str z)) := by
  obtain ⟨t, h⟩ := h
  exact pe_glob hg h ⟨t, rfl⟩ hd
theorem pe_gref {a : Addr} (h : X.mg x = some (.ref a)) (hg : Gl X x := by rfl) (hd : (x == ("__debug__" : Str)) = false := by decide) : PE X (.Name x pos) (tC (.ref a)) := pe_glob hg h rfl hd
end
end LC

namespace LC
open PySem L2 Evl
/-! ### more readings -/
/-- texts that are short (all of them are), deep down -/
def okD : PyData → Bool
  | .str s => decide (s.length ≤ 100000) && PyData.strOk s
  | .list ds => okAll ds
  | .tuple ds => okAll ds
  | .dict _ => false
  | _ => true
where okAll : List PyData → Bool
  | [] => true
  | d :: ds => okD d && okAll ds
theorem okAll_mem : ∀ {ds : List PyData} {d : PyData}, okD.okAll ds = true → d ∈ ds → okD d = true
  | [], _, _, h => by cases h
  | e :: ds, d, ho, h => by
    have h2 : (okD e && okD.okAll ds) = true := by
      unfold okD.okAll at ho
      exact ho
    rw [Bool.and_eq_true] at h2
    rcases List.mem_cons.mp h with rfl | h
    · exact h2.1
    · exact okAll_mem h2.2 h
theorem okAll_of : ∀ {ds : List PyData}, (∀ d ∈ ds, okD d = true) → okD.okAll ds = true
  | [], _ => by unfold okD.okAll; rfl
  | e :: ds, h => by
    unfold okD.okAll
    rw [Bool.and_eq_true]
    exact ⟨h e (List.mem_cons_self ..), okAll_of fun d hd => h d (List.mem_cons_of_mem _ hd)⟩
theorem ok_tup {ds : List PyData} (h : okD (.tuple ds) = true) {d : PyData} (hd : d ∈ ds) : okD d = true := okAll_mem (by unfold okD at h; exact h) hd
theorem ok_lst {ds : List PyData} (h : okD (.list ds) = true) {d : PyData} (hd : d ∈ ds) : okD d = true := okAll_mem (by unfold okD at h; exact h) hd
theorem ok_str {s : Str} (h : okD (.str s) = true) : s.length ≤ 100000 := by unfold okD at h; exact of_decide_eq_true (Bool.and_eq_true_iff.mp h).1
theorem shapedS {s : Str} (h : okD (.str s) = true) : SeqAt.shaped (.str s) = true := by
  unfold okD at h
  show (PyData.canLay0 (.str s) && decide (PyData.depth (.str s) ≤ 64)) = true
  unfold PyData.canLay0 PyData.depth
  rw [(Bool.and_eq_true_iff.mp h).2]
  rfl
theorem ok_sign {s : Str} (h : okD (.str s) = true) {c : Nat} (hc : c ∈ s.cps.toList) : okD (.str ⟨#[c]⟩) = true := by
  unfold okD at h ⊢
  have h2 := (Bool.and_eq_true_iff.mp h).2
  unfold PyData.strOk at h2 ⊢
  have h3 : c < 0x110000 := by
    rw [Array.all_eq_true'] at h2
    exact of_decide_eq_true (h2 c (Array.mem_def.mpr hc))
  rw [Bool.and_eq_true]
  exact ⟨rfl, by simp [h3]⟩
theorem ok_tup_of {ds : List PyData} (h : ∀ d ∈ ds, okD d = true) : okD (.tuple ds) = true := by unfold okD; exact okAll_of h
theorem ok_lst_of {ds : List PyData} (h : ∀ d ∈ ds, okD d = true) : okD (.list ds) = true := by unfold okD; exact okAll_of h
/-- truth -/
def truD : PyData → Bool
  | .none => false
  | .bool b => b
  | .int i => i != 0
  | .str s => (s.length : Int) != 0
  | .list ds => !ds.isEmpty
  | .tuple ds => !ds.isEmpty
  | .dict _ => false
section
variable {K : Frag} {σ : L2.St} {H H' : Hp} {ta tb tc te tx : TE} {t u : TT} {d e : PyData}
theorem empty_dp {vs : List V} {ds : List PyData} (h : DtAll K H vs ds) : (!ds.isEmpty) = !vs.isEmpty := by
  cases h <;> rfl
theorem tru_dp {v : V} (h : Dt K H v d) (ok : okD d = true) : TruV K v H (truD d) := by
  cases h with
  | non => rfl
  | bl b => rfl
  | int i => rfl
  | str x => exact ⟨sz_of (ok_str ok), rfl⟩
  | lst hs ha => exact .inl ⟨_, sq_of hs, empty_dp ha⟩
  | tup hs ha => exact .inr (.inl ⟨_, hs, empty_dp ha⟩)
theorem et_d (h : EvD K te σ H d) (ok : okD d = true) : EvT (tTrU K te) σ H (truD d) := fun H1 e Q q =>
  h H1 e _ fun v H2 Hd g hd => ⟨_, tru_dp (dp_ex g.d2 _ _ hd) ok, q H2 g.ex⟩
theorem et_b {b : Bool} (h : Ev te σ H (.bl b)) : EvT (tTrU K te) σ H b := fun H1 e Q q => h H1 e _ fun H2 e2 => ⟨b, rfl, q H2 e2⟩
theorem ev_notD (h : EvD K te σ H d) (ok : okD d = true) : Ev (tNotT K te) σ H (.bl (!truD d)) := fun H1 e Q q =>
  h H1 e _ fun v H2 Hd g hd => ⟨_, tru_dp (dp_ex g.d2 _ _ hd) ok, q H2 g.ex⟩
theorem ev_notB {b : Bool} (h : Ev te σ H (.bl b)) : Ev (tNotT K te) σ H (.bl (!b)) := fun H1 e Q q => h H1 e _ fun H2 e2 => ⟨b, rfl, q H2 e2⟩
/-- a < b < c of ints -/
theorem ev_chain {p q : Int → Int → Bool} {i j k : Int} (ha : EvD K ta σ H (.int i)) (hb : EvD K tb σ H (.int j)) (hc : EvD K tc σ H (.int k)) :
    Ev (tChain (rI0 fun i j => .bl (p i j)) (rI0 fun i j => .bl (q i j)) ta tb tc) σ H (.bl (p i j && q j k)) := fun H1 e Q hq =>
  ev_int ha H1 e _ fun H2 e2 => ev_int hb H2 (e.trans e2) _ fun H3 e3 => ⟨i, j, rfl, rfl, _, rfl, by
    cases hp : p i j with
    | true =>
      show tc σ H3 _
      refine ev_int hc H3 ((e.trans e2).trans e3) _ fun H4 e4 => ⟨j, k, rfl, rfl, ?_⟩
      have := hq H4 ((e2.trans e3).trans e4)
      rw [hp] at this
      exact this
    | false =>
      show Q (.bl false) H3
      have := hq H3 (e2.trans e3)
      rw [hp] at this
      exact this⟩
theorem et_chain {p q : Int → Int → Bool} {i j k : Int} (ha : EvD K ta σ H (.int i)) (hb : EvD K tb σ H (.int j)) (hc : EvD K tc σ H (.int k)) :
    EvT (tTest (tChain (rI0 fun i j => .bl (p i j)) (rI0 fun i j => .bl (q i j)) ta tb tc)) σ H (p i j && q j k) := et_test (ev_chain ha hb hc)
/-- int(flag), int(n) -/
theorem ev_intB {b : Bool} (h : Ev te σ H (.bl b)) : Ev (tCB (fun xs H Q => (∃ i, xs = [.int i] ∧ Q (.int i) H) ∨ ∃ k, xs = [.bl k] ∧ Q (.int (if k then 1 else 0)) H) (tCons te tNil)) σ H (.int (if b then 1 else 0)) := fun H1 e Q q =>
  h H1 e _ fun H2 e2 => .inr ⟨b, rfl, q H2 e2⟩
/-- tuple(list) -/
theorem evd_tupL {ds : List PyData} (h : EvD K te σ H (.list ds)) : EvD K (tCB (rTupU K) (tCons te tNil)) σ H (.tuple ds) := fun H1 e Q q =>
  h H1 e _ fun v H2 A g hd => by
    obtain ⟨a, xs, rfl, hs, hall⟩ := dp_lst hd
    exact ⟨a, xs, rfl, .inl ⟨sq_of (g.d2 _ _ hs), fun l hl => q _ _ _ (g.new _ hl) (.tup (st_of upd_same) (dpAll_ex (Ex.new (fresh_back g.d2 hl)) _ _ hall))⟩⟩
theorem evd_lstT {ds : List PyData} (h : EvD K te σ H (.tuple ds)) : EvD K (tCB (rLstU K) (tCons te tNil)) σ H (.list ds) := fun H1 e Q q =>
  h H1 e _ fun v H2 A g hd => by
    obtain ⟨a, xs, rfl, hs, hall⟩ := dp_tup hd
    exact ⟨a, xs, rfl, .inr (ex_t g.d2 hs), fun l hl => q _ _ _ (g.new _ hl) (.lst upd_same (dpAll_ex (Ex.new (fresh_back g.d2 hl)) _ _ hall))⟩
theorem evd_lstL {ds : List PyData} (h : EvD K te σ H (.list ds)) : EvD K (tCB (rLstU K) (tCons te tNil)) σ H (.list ds) := fun H1 e Q q =>
  h H1 e _ fun v H2 A g hd => by
    obtain ⟨a, xs, rfl, hs, hall⟩ := dp_lst hd
    exact ⟨a, xs, rfl, .inl (sq_of (g.d2 _ _ hs)), fun l hl => q _ _ _ (g.new _ hl) (.lst upd_same (dpAll_ex (Ex.new (fresh_back g.d2 hl)) _ _ hall))⟩
/-- a constant tuple of the module -/
theorem evd_ref {a : Addr} (h : Dt K H (.ref a) d) : EvD K (tC (.ref a)) σ H d := evd_of ev_c h
/-- a comprehension over a text's signs -/
theorem evd_lcS {tl : TE} {tt : TT} {j : Nat} {vs : List Nat} {x : Str} (f : Nat → Bool) (g : Nat → PyData) (h : EvD K tl σ H (.str x)) (hz : x.length ≤ 40000) (hw : ∀ x, wipe ((wipe σ vs).set j (some x)) vs = wipe σ vs)
    (ht : ∀ c H1, Ex H H1 → c ∈ x.cps.toList → EvT tt ((wipe σ vs).set j (some (.str ⟨#[c]⟩))) H1 (f c)) (he : ∀ c H1, Ex H H1 → c ∈ x.cps.toList → f c = true → EvD K te ((wipe σ vs).set j (some (.str ⟨#[c]⟩))) H1 (g c)) :
    EvD K (tLc (iSeq K tl) (gName j) tt te vs) σ H (.list ((x.cps.toList.filter f).map g)) := fun H1 e Q q => by
  refine .inr (.inr (h H1 e _ fun v H2 A gr hd => ⟨x, dp_str hd, fun D hD => ?_⟩))
  have hlen : x.cps.size = x.cps.toList.length := by simp
  have hz2 : x.cps.toList.length ≤ 40000 := by rw [← hlen]; exact hz
  refine ⟨fun i m H' => m = x.cps.size - i ∧ i ≤ x.cps.size ∧ Acc K A H2 D (((x.cps.toList.take i).filter f).map g) H', ⟨x.cps.size, by simp, Nat.zero_le _, Acc.nil gr.d2 hD⟩, ?_⟩
  rintro i m H' ⟨rfl, hi, p⟩
  by_cases hlt : i < x.cps.size
  · refine .inr ⟨hlt, fun H'' => Acc K A H2 D (((x.cps.toList.take (i + 1)).filter f).map g) H'', fun H'' p' => ⟨x.cps.size - (i + 1), by omega, rfl, hlt, p'⟩, ?_⟩
    rintro y H'' ⟨rfl, c, hc, rfl⟩
    have hc2 : x.cps.toList[i]? = some c := by rw [Array.getElem?_toList]; exact hc
    have hm : c ∈ x.cps.toList := List.mem_of_getElem? hc2
    have e1 : ((x.cps.toList.take (i + 1)).filter f).map g = if f c then ((x.cps.toList.take i).filter f).map g ++ [g c] else ((x.cps.toList.take i).filter f).map g := by
      rw [List.take_add_one, hc2, Option.toList, List.filter_append, List.map_append]
      cases q : f c with
      | true => simp [q]
      | false => simp [q]
    refine ⟨hw _, ?_⟩
    rw [e1]
    refine lc_turn gr.d2 hD p ?_ (ht c A gr.xd hm) (fun hf => he c A gr.xd hm hf)
    rw [List.length_map]
    have := List.length_filter_le f (x.cps.toList.take i)
    rw [List.length_take] at this
    omega
  · refine .inl ⟨by show x.cps.size ≤ i; omega, ?_⟩
    have ei : i = x.cps.toList.length := by omega
    subst ei
    rw [List.take_length] at p
    obtain ⟨Hd, g1, g2⟩ := p.done gr.xd gr.fr gr.ex hD
    exact q _ H' Hd g1 g2
end
end LC

namespace LC
open PySem L2 Evl
/-! ### sources: what the defs compute, over plain data -/
def smallS : Str := "abcdefghijklmnopqrstuvwxyz"
def wordsS : List Str := ["add", "less", "times", "over", "same"]
def barredS : List Str := ["add", "less", "times", "over", "same", "if", "set", "show"]
def isWithin (d : PyData) (lo hi : Int) : Bool := match d with
  | .int i => decide (lo ≤ i) && decide (i ≤ hi)
  | _ => false
def nameS (s : Str) : Bool := (decide (1 ≤ s.length) && decide (s.length ≤ 4)) && (!decide (s ∈ barredS) && s.cps.toList.all fun c => decide (c ∈ smallS.cps.toList))
def isName : PyData → Bool
  | .str s => nameS s
  | _ => false
def sumHead (w : Str) (n : Nat) : Bool := decide (w ∈ wordsS) && n == 3 || decide (w = "if") && n == 4
def isSum : Nat → PyData → Bool
  | _, .str s => nameS s
  | n + 1, .tuple (.str w :: r) => sumHead w (r.length + 1) && r.all (isSum n)
  | _, .tuple _ => false
  | _, d => isWithin d 0 9999
def isRow : PyData → Bool
  | .tuple [.str w, a] => decide (w = "show") && isSum 6 a
  | .tuple [.str w, x, a] => decide (w = "set") && (isName x && isSum 6 a)
  | _ => false
def isSource : PyData → Bool
  | .tuple rs => decide (rs.length ≤ 8) && rs.all isRow
  | _ => false
theorem inD_str {s : Str} : ∀ {l : List Str}, inD (.str s) (l.map PyData.str) = decide (s ∈ l)
  | [] => by simp [inD]
  | x :: l => by
    have ih := inD_str (s := s) (l := l)
    show (PyData.eqv (.str x) (.str s) || inD (.str s) (l.map PyData.str)) = decide (s ∈ x :: l)
    rw [ih]
    show ((x == s) || decide (s ∈ l)) = decide (s ∈ x :: l)
    by_cases h : s = x
    · subst h; simp
    · have h2 : (x == s) = false := by simpa using fun z => h z.symm
      rw [h2, Bool.false_or]
      by_cases q : s ∈ l
      · simp [q]
      · simp [q, h]
theorem flat_strs (l : List Str) : (l.map PyData.str).all flatD = true := by
  rw [List.all_map]
  simp [flatD, Function.comp_def]
/-- the shapes of data: what the tests on a sum look at -/
theorem isSum_nontup {n : Nat} {d : PyData} (h1 : isT d "str" = false) (h2 : isT d "tuple" = false) : isSum n d = isWithin d 0 9999 := by
  cases d with
  | str s => simp [isT, tyN] at h1
  | tuple ds => simp [isT, tyN] at h2
  | _ => cases n <;> simp [isSum]
theorem isT_str {d : PyData} (h : isT d "str" = true) : ∃ s, d = .str s := by
  cases d <;> simp [isT, tyN] at h
  exact ⟨_, rfl⟩
theorem isT_tup {d : PyData} (h : isT d "tuple" = true) : ∃ ds, d = .tuple ds := by
  cases d <;> simp [isT, tyN] at h
  exact ⟨_, rfl⟩
theorem within_eq (d : PyData) (lo hi : Int) : (isT d "int" && (!isT d "bool" && isWithin d lo hi)) = isWithin d lo hi := by
  cases d <;> simp [isT, tyN, isWithin]
def F_is_within (ds : List PyData) (d : PyData) : Prop := ∃ x lo hi, ds = [x, .int lo, .int hi] ∧ d = .bool (isWithin x lo hi)
def F_is_name (ds : List PyData) (d : PyData) : Prop := ∃ x, ds = [x] ∧ okD x = true ∧ d = .bool (isName x)
def F_is_sum (n : Nat) (ds : List PyData) (d : PyData) : Prop := ∃ x, ds = [x, .int (n : Int)] ∧ okD x = true ∧ d = .bool (isSum n x)
def F_is_row (ds : List PyData) (d : PyData) : Prop := ∃ x, ds = [x] ∧ okD x = true ∧ d = .bool (isRow x)
def F_is_source (ds : List PyData) (d : PyData) : Prop := ∃ x, ds = [x] ∧ okD x = true ∧ d = .bool (isSource x)
theorem dts1 {K : Frag} {H : Hp} {vs : List V} {a : PyData} (h : DtAll K H vs [a]) : ∃ x, vs = [x] ∧ Dt K H x a := by
  cases h with
  | cons h1 h2 => cases h2; exact ⟨_, rfl, h1⟩
theorem dts2 {K : Frag} {H : Hp} {vs : List V} {a b : PyData} (h : DtAll K H vs [a, b]) : ∃ x y, vs = [x, y] ∧ Dt K H x a ∧ Dt K H y b := by
  cases h with
  | cons h1 h2 =>
    obtain ⟨y, rfl, hy⟩ := dts1 h2
    exact ⟨_, _, rfl, h1, hy⟩
theorem dts3 {K : Frag} {H : Hp} {vs : List V} {a b c : PyData} (h : DtAll K H vs [a, b, c]) : ∃ x y z, vs = [x, y, z] ∧ Dt K H x a ∧ Dt K H y b ∧ Dt K H z c := by
  cases h with
  | cons h1 h2 =>
    obtain ⟨y, z, rfl, hy, hz⟩ := dts2 h2
    exact ⟨_, _, _, rfl, h1, hy, hz⟩
end LC
namespace LC
open PySem L2 Evl
theorem cut_tail (w : PyData) (r : List PyData) : cutD (w :: r) (some 1) none = r := by
  unfold cutD
  have e1 : HT.sIx (w :: r).length 0 (some 1) = 1 := by
    have := HT.sIx_nat (w :: r).length 0 1
    rw [show ((1 : Nat) : Int) = 1 from rfl] at this
    rw [this]
    simp
  rw [e1, HT.sIx_none]
  simp
end LC
namespace LC
open PySem L2 Evl
theorem atI_0 {α : Type} (w : α) (r : List α) : atI (w :: r) 0 = some w := by simp [atI, ixN]
theorem atI_1 {α : Type} (w z : α) (r : List α) : atI (w :: z :: r) 1 = some z := by
  have h : (1 : Int) < ((r.length + 1 + 1 : Nat) : Int) := by omega
  simp [atI, ixN]
  rw [if_pos (by omega)]
  rfl
theorem atI_2 {α : Type} (w z y : α) (r : List α) : atI (w :: z :: y :: r) 2 = some y := by
  simp [atI, ixN]
  rw [if_pos (by omega)]
  rfl
end LC

namespace LC
open PySem PySem.Spec PyProof.Rows L2 Evl
abbrev FnP (K : Frag) (x q : Str) (st : Stmt) (f : Addr) (fd : FuncData) : Prop := FunD K x q (defArgs st) (defBody st) (defScope st) [] [] f fd
section
variable {P : Program} {w : World} {K : Frag} {mg : Str → Option Value} {base : Heap} {x q : Str} {st : Stmt} {f : Addr} {fd : FuncData} {N ps : List Str} {k : Nat}
/-- a def over data -/
theorem has_d {FF : List PyData → PyData → Prop} (F : FnP K x q st f fd) (g : mg x = some (.ref f)) (b : Binds K fd ps []) (S : FnScope N ps (defScope st)) (hl : ∀ ds d, FF ds d → ds.length = ps.length)
    (hbody : ∀ (cdv : Value) (A : Around) (outer : List Env) (s : Shared) (H : Hp) (vs : List V) (Q : VK) (E : XK) (ds : List PyData) (d : PyData) (H0 : Hp), Room k (A.deeper (envOfC q (defScope st) s.heap.objs.size f cdv)) →
      Ex H0 H → DtAll K H0 vs ds → FF ds d → (∀ v H2 Hd, Gr H0 H H2 Hd → Dt K Hd v d → Q v H2) →
      ∃ t, PSs (cxOf CX0 P w K mg base N q (defScope st) f cdv A outer s H E).nox (defBody st) t ∧ t { nx := fun _ H' => Q .non H', rt := Q } (start N vs) H) : Has P w K mg base CX0 (k + 1) x ps (spD K FF) := by
  refine ⟨f, fd, F.ok S (fun vs H Q E h => ?_) (fun cdv A outer s H vs Q E hr h => ?_), b, F.kp, g⟩
  · obtain ⟨ds, d, H0, _, hd, hf, _⟩ := h
    rw [dpAll_len hd]
    exact hl ds d hf
  · obtain ⟨ds, d, H0, e, hd, hf, hq⟩ := h
    obtain ⟨t, ht, r⟩ := hbody cdv A outer s H vs Q E ds d H0 hr e hd hf hq
    exact ⟨t, PSs.nox ht, r⟩
end
end LC
namespace LC
open PySem PySem.Spec PyProof.Rows L2 Evl
section
variable {K : Frag} {H0 H H1 : Hp} {d : PyData} {Q : VK} {σ : L2.St} {t : TT} {tu tw : TS} {D : Ends} {te : TE}
/-- what is wanted of a def's answer -/
abbrev Rt (K : Frag) (H0 H : Hp) (d : PyData) (Q : VK) : Prop := ∀ v H2 Hd, Gr H0 H H2 Hd → Dt K Hd v d → Q v H2
theorem Rt.go (k : Rt K H0 H d Q) (e : Ex H H1) : Rt K H0 H1 d Q := fun v H2 Hd g => k v H2 Hd (g.after e)
theorem s_yes (h : EvT t σ H0 true) (x : Ex H0 H) (k : ∀ H1, Ex H H1 → tu D σ H1) : tIfS t tu tw D σ H := s_ifD h x (fun _ => k) fun z => nomatch z
theorem s_nay (h : EvT t σ H0 false) (x : Ex H0 H) (k : ∀ H1, Ex H H1 → tw D σ H1) : tIfS t tu tw D σ H := s_ifD h x (fun z => nomatch z) fun _ => k
theorem Rt.ret {d' : PyData} (k : Rt K H0 H d D.rt) (x : Ex H0 H) (h : EvD K te σ H0 d') (e : d' = d) : tRet te D σ H := s_retD (evd_is h e) x k
end
section
variable {P : Program} {w : World} {K : Frag} {mg : Str → Option Value} {base : Heap} {x q : Str} {st : Stmt} {f : Addr} {fd : FuncData} {N ps : List Str} {k : Nat} {CX : CXT}
/-- a def that is not called -/
theorem has_never (F : FnP K x q st f fd) (g : mg x = some (.ref f)) (b : Binds K fd ps []) (FF : List PyData → PyData → Prop) (hn : ∀ ds d, ¬ FF ds d) : Has P w K mg base CX k x ps (spD K FF) :=
  ⟨f, fd, ⟨fun vs H Q E h => by
    obtain ⟨ds, d, H0, _, _, hf, _⟩ := h
    exact (hn ds d hf).elim, fun A outer s H args us vs Q E _ _ _ _ h => by
    obtain ⟨ds, d, H0, _, _, hf, _⟩ := h
    exact (hn ds d hf).elim⟩, b, F.kp, g⟩
/-- what a def promises one level less deep -/
def Fprev (F : Nat → List PyData → PyData → Prop) : Nat → List PyData → PyData → Prop
  | 0 => fun _ _ => False
  | n + 1 => F n
end
end LC

namespace LC
open PySem L2 Evl
/-! ### sums, rows, sources as trees -/
inductive Sm where
  | num (i : Int)
  | nm (x : Str)
  | op (w : Str) (a b : Sm)
  | ite (a b c : Sm)
  deriving DecidableEq
inductive Rw where
  | set (x : Str) (s : Sm)
  | shw (s : Sm)
  deriving DecidableEq
abbrev Src := List Rw
def Sm.enc : Sm → PyData
  | .num i => .int i
  | .nm x => .str x
  | .op w a b => .tuple [.str w, a.enc, b.enc]
  | .ite a b c => .tuple [.str "if", a.enc, b.enc, c.enc]
def Rw.enc : Rw → PyData
  | .set x s => .tuple [.str "set", .str x, s.enc]
  | .shw s => .tuple [.str "show", s.enc]
def encS (src : Src) : PyData := .tuple (src.map Rw.enc)
def Sm.depth : Sm → Nat
  | .num _ => 0
  | .nm _ => 0
  | .op _ a b => max a.depth b.depth + 1
  | .ite a b c => max a.depth (max b.depth c.depth) + 1
def Sm.good : Sm → Bool
  | .num i => decide (0 ≤ i) && decide (i ≤ 9999)
  | .nm x => nameS x
  | .op w a b => decide (w ∈ wordsS) && (a.good && b.good)
  | .ite a b c => a.good && (b.good && c.good)
def Rw.sum : Rw → Sm
  | .set _ s => s
  | .shw s => s
def Rw.good : Rw → Bool
  | .set x s => nameS x && (s.good && decide (s.depth ≤ 6))
  | .shw s => s.good && decide (s.depth ≤ 6)
def goodS (src : Src) : Bool := decide (src.length ≤ 8) && src.all Rw.good
theorem noIf : ¬ (("if" : Str) ∈ wordsS) := by decide +kernel
theorem isSum_enc : ∀ (s : Sm) (n : Nat), s.good = true → s.depth ≤ n → isSum n s.enc = true
  | .num i, n, h, _ => by
    have h : (decide (0 ≤ i) && decide (i ≤ 9999)) = true := h
    cases n <;> exact h
  | .nm x, n, h, _ => by cases n <;> exact h
  | .op w a b, n, h, hd => by
    have h : (decide (w ∈ wordsS) && (a.good && b.good)) = true := h
    simp only [Bool.and_eq_true] at h
    have hd : max a.depth b.depth + 1 ≤ n := hd
    cases n with
    | zero => omega
    | succ n =>
      show (sumHead w 3 && [a.enc, b.enc].all (isSum n)) = true
      have e : sumHead w 3 = true := by
        unfold sumHead
        rw [h.1]
        rfl
      rw [e, Bool.true_and]
      simp only [List.all_cons, List.all_nil, Bool.and_true, Bool.and_eq_true]
      exact ⟨isSum_enc a n h.2.1 (by omega), isSum_enc b n h.2.2 (by omega)⟩
  | .ite a b c, n, h, hd => by
    have h : (a.good && (b.good && c.good)) = true := h
    simp only [Bool.and_eq_true] at h
    have hd : max a.depth (max b.depth c.depth) + 1 ≤ n := hd
    cases n with
    | zero => omega
    | succ n =>
      show (sumHead "if" 4 && [a.enc, b.enc, c.enc].all (isSum n)) = true
      have e : sumHead "if" 4 = true := by decide +kernel
      rw [e, Bool.true_and]
      simp only [List.all_cons, List.all_nil, Bool.and_true, Bool.and_eq_true]
      exact ⟨isSum_enc a n h.1 (by omega), isSum_enc b n h.2.1 (by omega), isSum_enc c n h.2.2 (by omega)⟩
theorem isRow_enc (r : Rw) (h : r.good = true) : isRow r.enc = true := by
  cases r with
  | set x s =>
    have h : (nameS x && (s.good && decide (s.depth ≤ 6))) = true := h
    simp only [Bool.and_eq_true, decide_eq_true_eq] at h
    show (decide (("set" : Str) = "set") && (isName (.str x) && isSum 6 s.enc)) = true
    rw [isSum_enc s 6 h.2.1 h.2.2]
    show (decide (("set" : Str) = "set") && (nameS x && true)) = true
    rw [h.1]
    decide
  | shw s =>
    have h : (s.good && decide (s.depth ≤ 6)) = true := h
    simp only [Bool.and_eq_true, decide_eq_true_eq] at h
    show (decide (("show" : Str) = "show") && isSum 6 s.enc) = true
    rw [isSum_enc s 6 h.1 h.2]
    decide
theorem isSource_enc (src : Src) (h : goodS src = true) : isSource (encS src) = true := by
  unfold goodS at h
  simp only [Bool.and_eq_true, decide_eq_true_eq, List.all_eq_true] at h
  show (decide ((src.map Rw.enc).length ≤ 8) && (src.map Rw.enc).all isRow) = true
  rw [List.length_map, List.all_map]
  simp only [Bool.and_eq_true, decide_eq_true_eq, List.all_eq_true]
  exact ⟨h.1, fun r hr => isRow_enc r (h.2 r hr)⟩
/-! names are short and plain -/
theorem sm_small {c : Nat} (h : c ∈ smallS.cps.toList) : c < 128 := by
  have q : smallS.cps.toList.all (fun c => decide (c < 128)) = true := by decide +kernel
  exact of_decide_eq_true (List.all_eq_true.mp q c h)
theorem ok_of_name {x : Str} (h : nameS x = true) : okD (.str x) = true := by
  unfold nameS at h
  simp only [Bool.and_eq_true, decide_eq_true_eq, List.all_eq_true] at h
  unfold okD PyData.strOk
  rw [Bool.and_eq_true, Array.all_eq_true']
  refine ⟨decide_eq_true (by omega), fun c hc => decide_eq_true ?_⟩
  have := sm_small (h.2.2 c (Array.mem_def.mp hc))
  omega
theorem ok_word {w : Str} (h : w ∈ wordsS) : okD (.str w) = true := by
  have q : wordsS.all (fun w => okD (.str w)) = true := by decide +kernel
  exact List.all_eq_true.mp q w h
theorem ok_if : okD (.str "if") = true := by decide +kernel
theorem ok_set : okD (.str "set") = true := by decide +kernel
theorem ok_show : okD (.str "show") = true := by decide +kernel
theorem ok_int (i : Int) : okD (.int i) = true := rfl
theorem ok_sum : ∀ (s : Sm), s.good = true → okD s.enc = true
  | .num i, _ => rfl
  | .nm x, h => ok_of_name h
  | .op w a b, h => by
    have h : (decide (w ∈ wordsS) && (a.good && b.good)) = true := h
    simp only [Bool.and_eq_true, decide_eq_true_eq] at h
    refine ok_tup_of fun d hd => ?_
    simp only [List.mem_cons, List.not_mem_nil, or_false] at hd
    rcases hd with rfl | rfl | rfl
    · exact ok_word h.1
    · exact ok_sum a h.2.1
    · exact ok_sum b h.2.2
  | .ite a b c, h => by
    have h : (a.good && (b.good && c.good)) = true := h
    simp only [Bool.and_eq_true] at h
    refine ok_tup_of fun d hd => ?_
    simp only [List.mem_cons, List.not_mem_nil, or_false] at hd
    rcases hd with rfl | rfl | rfl | rfl
    · exact ok_if
    · exact ok_sum a h.1
    · exact ok_sum b h.2.1
    · exact ok_sum c h.2.2
theorem Rw.good_sum {r : Rw} (h : r.good = true) : r.sum.good = true ∧ r.sum.depth ≤ 6 := by
  cases r with
  | set x s =>
    have h : (nameS x && (s.good && decide (s.depth ≤ 6))) = true := h
    simp only [Bool.and_eq_true, decide_eq_true_eq] at h
    exact h.2
  | shw s =>
    have h : (s.good && decide (s.depth ≤ 6)) = true := h
    simp only [Bool.and_eq_true, decide_eq_true_eq] at h
    exact h
theorem ok_row (r : Rw) (h : r.good = true) : okD r.enc = true := by
  cases r with
  | set x s =>
    have h : (nameS x && (s.good && decide (s.depth ≤ 6))) = true := h
    simp only [Bool.and_eq_true, decide_eq_true_eq] at h
    refine ok_tup_of fun d hd => ?_
    simp only [List.mem_cons, List.not_mem_nil, or_false] at hd
    rcases hd with rfl | rfl | rfl
    · exact ok_set
    · exact ok_of_name h.1
    · exact ok_sum s h.2.1
  | shw s =>
    have h : (s.good && decide (s.depth ≤ 6)) = true := h
    simp only [Bool.and_eq_true, decide_eq_true_eq] at h
    refine ok_tup_of fun d hd => ?_
    simp only [List.mem_cons, List.not_mem_nil, or_false] at hd
    rcases hd with rfl | rfl
    · exact ok_show
    · exact ok_sum s h.1
theorem goodS_row {src : Src} (h : goodS src = true) {r : Rw} (hr : r ∈ src) : r.good = true := by
  unfold goodS at h
  simp only [Bool.and_eq_true, List.all_eq_true] at h
  exact h.2 r hr
theorem goodS_len {src : Src} (h : goodS src = true) : src.length ≤ 8 := by
  unfold goodS at h
  simp only [Bool.and_eq_true, decide_eq_true_eq] at h
  exact h.1
theorem ok_src (src : Src) (h : goodS src = true) : okD (encS src) = true := by
  refine ok_tup_of fun d hd => ?_
  obtain ⟨r, hr, rfl⟩ := List.mem_map.mp hd
  exact ok_row r (goodS_row h hr)
/-! names in sums; what a source sets and reads -/
def Sm.names : Sm → List Str
  | .num _ => []
  | .nm x => [x]
  | .op _ a b => a.names ++ b.names
  | .ite a b c => a.names ++ (b.names ++ c.names)
def Rw.sets : Rw → List Str
  | .set x _ => [x]
  | .shw _ => []
def setsOf (src : Src) : List Str := src.flatMap Rw.sets
/-- found, mine -/
def readsGo (acc : List Str × List Str) (r : Rw) : List Str × List Str :=
  (r.sum.names.foldl (fun f x => if x ∈ acc.2 ∨ x ∈ f then f else f ++ [x]) acc.1, acc.2 ++ r.sets)
def readsOf (src : Src) : List Str := (src.foldl readsGo ([], [])).1
theorem names_len : ∀ (s : Sm), s.names.length ≤ 3 ^ s.depth
  | .num _ => by simp [Sm.names]
  | .nm _ => by simp [Sm.names, Sm.depth]
  | .op w a b => by
    have h1 := names_len a
    have h2 := names_len b
    show (a.names ++ b.names).length ≤ 3 ^ (max a.depth b.depth + 1)
    rw [List.length_append, Nat.pow_succ]
    have m1 : 3 ^ a.depth ≤ 3 ^ max a.depth b.depth := Nat.pow_le_pow_right (by omega) (by omega)
    have m2 : 3 ^ b.depth ≤ 3 ^ max a.depth b.depth := Nat.pow_le_pow_right (by omega) (by omega)
    omega
  | .ite a b c => by
    have h1 := names_len a
    have h2 := names_len b
    have h3 := names_len c
    show (a.names ++ (b.names ++ c.names)).length ≤ 3 ^ (max a.depth (max b.depth c.depth) + 1)
    rw [List.length_append, List.length_append, Nat.pow_succ]
    have m1 : 3 ^ a.depth ≤ 3 ^ max a.depth (max b.depth c.depth) := Nat.pow_le_pow_right (by omega) (by omega)
    have m2 : 3 ^ b.depth ≤ 3 ^ max a.depth (max b.depth c.depth) := Nat.pow_le_pow_right (by omega) (by omega)
    have m3 : 3 ^ c.depth ≤ 3 ^ max a.depth (max b.depth c.depth) := Nat.pow_le_pow_right (by omega) (by omega)
    omega
end LC

namespace LC
open PySem PySem.Spec PyProof.Rows L2 Evl
/-! ### statements over data: a list that grows, a for over a tuple -/
section
variable {K : Frag} {A H Hs H' : Hp} {p : Addr} {out ds : List PyData} {d : PyData} {σ : L2.St} {te tl : TE} {i : Nat} {D : Ends} {g : TG} {tu : TS}
theorem s_new {ta : TA} (h : EvDs K ta σ A []) (x : Ex A H) (k : ∀ p H1, H p = none → Acc K A H p [] H1 → D.nx (σ.set i (some (.ref p))) H1) : tAsg (tLst ta) (gName i) D σ H := h H x _ fun vs H2 Hd gr hd => by
  cases hd
  exact ⟨Nat.zero_le _, fun p hp => k p _ (fresh_back gr.ex hp) (Acc.start x (gr.ex.trans (Ex.new hp)) (fresh_back gr.ex hp) upd_same)⟩
theorem s_ext (hs : σ[i]? = some (some (.ref p))) (a : Acc K A Hs p out H) (hA : A p = none) (hD : Hs p = none) (h : EvD K te σ A (.list ds)) (hl : out.length + ds.length ≤ 100000)
    (k : ∀ H', Acc K A Hs p (out ++ ds) H' → (∀ Hd, Ex Hd H → Hd p = none → Ex Hd H') → D.nx σ H') : tDrop (tBM K "list" rExtend (tVar i) (tCons te tNil)) D σ H := by
  obtain ⟨acc, h1, h2⟩ := a.at
  refine ⟨.ref p, hs, .inl ⟨rfl, acc, sq_of h1⟩, h H a.base _ fun v H2 C gr hd => ?_⟩
  obtain ⟨b, zs, rfl, hb, hall⟩ := dp_lst hd
  obtain ⟨acc', e1, e2, e3⟩ := a.push' hA hD gr hall
  exact ⟨p, b, acc', zs, rfl, rfl, e1, gr.d2 _ _ hb, by rw [e2, dpAll_len hall]; exact sz_of hl, k _ e3 fun Hd x n => ex_upd (x.trans gr.ex) n⟩
theorem s_app (hs : σ[i]? = some (some (.ref p))) (a : Acc K A Hs p out H) (hA : A p = none) (hD : Hs p = none) (h : EvD K te σ A d) (hl : out.length < 100000)
    (k : ∀ H', Acc K A Hs p (out ++ [d]) H' → (∀ Hd, Ex Hd H → Hd p = none → Ex Hd H') → D.nx σ H') : tDrop (tBM K "list" rAppend (tVar i) (tCons te tNil)) D σ H := by
  obtain ⟨acc, h1, h2⟩ := a.at
  refine ⟨.ref p, hs, .inl ⟨rfl, acc, sq_of h1⟩, h H a.base _ fun v H2 C gr hd => ?_⟩
  obtain ⟨acc', e1, e2, e3⟩ := a.push hA hD gr hd
  exact ⟨p, acc', v, rfl, rfl, e1, sz_lt (by omega), k _ e3 fun Hd x n => ex_upd (x.trans gr.ex) n⟩
/-- the list that was filled, as data -/
theorem Acc.var (a : Acc K A Hs p out H) : ∃ Hd, Ex Hd H ∧ Dt K Hd (.ref p) (.list out) := by
  obtain ⟨x, B, acc, h1, h2, h3, h4, h5, h6⟩ := a
  refine ⟨upd B p (.lst acc), fun b u q => ?_, .lst upd_same (dpAll_ex (Ex.new h4) _ _ h6)⟩
  by_cases e : b = p
  · subst e
    rw [upd_same] at q
    cases q
    exact h1
  · rw [upd_ne e] at q
    exact h3 b u q
theorem Acc.here (a : Acc K A Hs p out H) : Dt K H (.ref p) (.list out) := by
  obtain ⟨Hd, x, h⟩ := a.var
  exact dp_ex x _ _ h
theorem s_forT (h : EvD K tl σ A (.tuple ds)) (x : Ex A H)
    (k : ∀ H1 Hd, Gr A H H1 Hd → ∃ Pv : Nat → L2.St → Hp → Prop, Pv 0 σ H1 ∧ (∀ i σ' H', Pv i σ' H' → Ex Hd H') ∧
      (∀ i v d σ' H', ds[i]? = some d → Dt K Hd v d → Pv i σ' H' → g v σ' H' fun σ2 H2 => tu { D with nx := Pv (i + 1), ct := Pv (i + 1), bk := D.nx } σ2 H2) ∧ ∀ σ' H', Pv ds.length σ' H' → D.nx σ' H') : tFor (iSeq K tl) g tu D σ H := by
  refine .inr (.inl (h H x _ fun v H1 Hd gr hd => ?_))
  obtain ⟨a, xs, rfl, hs, hall⟩ := dp_tup hd
  obtain ⟨Pv, p0, pb, ps, pe⟩ := k H1 Hd gr
  refine ⟨a, rfl, ⟨xs, ex_t gr.d2 hs⟩, for_tup (K := K) (a := a) (xs := xs) Pv p0 (fun i σ' H' _ q => ex_t (pb i σ' H' q) hs) (fun i y σ' H' hi q => ?_) fun σ' H' q => pe σ' H' (by rw [← dpAll_len hall]; exact q)⟩
  obtain ⟨d, hdi, hx⟩ := dpAll_of hall hi
  exact ps i y d σ' H' hdi hx q
theorem s_forL (h : EvD K tl σ A (.list ds)) (x : Ex A H)
    (k : ∀ H1 Hd, Gr A H H1 Hd → ∃ Pv : Nat → L2.St → Hp → Prop, Pv 0 σ H1 ∧ (∀ i σ' H', Pv i σ' H' → Ex Hd H') ∧
      (∀ i v d σ' H', ds[i]? = some d → Dt K Hd v d → Pv i σ' H' → g v σ' H' fun σ2 H2 => tu { D with nx := Pv (i + 1), ct := Pv (i + 1), bk := D.nx } σ2 H2) ∧ ∀ σ' H', Pv ds.length σ' H' → D.nx σ' H') : tFor (iSeq K tl) g tu D σ H := by
  refine .inl (h H x _ fun v H1 Hd gr hd => ?_)
  obtain ⟨a, xs, rfl, hs, hall⟩ := dp_lst hd
  obtain ⟨Pv, p0, pb, ps, pe⟩ := k H1 Hd gr
  refine ⟨a, rfl, ⟨xs, sq_of (gr.d2 _ _ hs)⟩, for_list (K := K) (a := a) (xs := xs) Pv p0 (fun i σ' H' _ q => sq_of (pb i σ' H' q _ _ hs)) (fun i y σ' H' hi q => ?_) fun σ' H' q => pe σ' H' (by rw [← dpAll_len hall]; exact q)⟩
  obtain ⟨d, hdi, hx⟩ := dpAll_of hall hi
  exact ps i y d σ' H' hdi hx q
end
def F_names_in (n : Nat) (ds : List PyData) (d : PyData) : Prop := ∃ s : Sm, ds = [s.enc] ∧ s.depth ≤ n ∧ s.depth ≤ 6 ∧ d = .list (s.names.map PyData.str)
def F_sets_of (ds : List PyData) (d : PyData) : Prop := ∃ src : Src, ds = [encS src] ∧ goodS src = true ∧ d = .list ((setsOf src).map PyData.str)
def F_reads_of (ds : List PyData) (d : PyData) : Prop := ∃ src : Src, ds = [encS src] ∧ goodS src = true ∧ d = .list ((readsOf src).map PyData.str)
def Sm.parts : Sm → List Sm
  | .op _ a b => [a, b]
  | .ite a b c => [a, b, c]
  | _ => []
theorem Sm.names_parts (s : Sm) (h : isT s.enc "str" = false) : s.names = s.parts.flatMap Sm.names := by
  cases s with
  | num i => rfl
  | nm x => simp [Sm.enc, isT, tyN] at h
  | op w a b => simp [Sm.names, Sm.parts]
  | ite a b c => simp [Sm.names, Sm.parts]
theorem Sm.enc_parts (s : Sm) (h : isT s.enc "tuple" = true) : ∃ w, s.enc = .tuple (.str w :: s.parts.map Sm.enc) := by
  cases s with
  | num i => simp [Sm.enc, isT, tyN] at h
  | nm x => simp [Sm.enc, isT, tyN] at h
  | op w a b => exact ⟨w, rfl⟩
  | ite a b c => exact ⟨"if", rfl⟩
theorem Sm.parts_depth {s q : Sm} (h : q ∈ s.parts) : q.depth < s.depth := by
  cases s with
  | num i => cases h
  | nm x => cases h
  | op w a b =>
    simp only [Sm.parts, List.mem_cons, List.not_mem_nil, or_false] at h
    show q.depth < max a.depth b.depth + 1
    rcases h with rfl | rfl <;> omega
  | ite a b c =>
    simp only [Sm.parts, List.mem_cons, List.not_mem_nil, or_false] at h
    show q.depth < max a.depth (max b.depth c.depth) + 1
    rcases h with rfl | rfl | rfl <;> omega
end LC
namespace LC
open PySem PySem.Spec PyProof.Rows L2 Evl
theorem Acc.ret {K : Frag} {A H0 H Hs H' : Hp} {p : Addr} {out : List PyData} {d : PyData} {Q : VK} (k : Rt K H0 H d Q) (a : Acc K A Hs p out H') (xd : Ex H0 A) (fr : ∀ a, H0 a = none → H a ≠ none → A a = none) (ex : Ex H Hs) (hD : Hs p = none) (e : PyData.list out = d) : Q (.ref p) H' := by
  obtain ⟨Hd, g1, g2⟩ := a.done xd fr ex hD
  rw [e] at g2
  exact k _ H' Hd g1 g2
theorem take_flat {α β : Type} (f : α → List β) {l : List α} {i : Nat} {a : α} (h : l[i]? = some a) : (l.take (i + 1)).flatMap f = (l.take i).flatMap f ++ f a := by
  rw [List.take_add_one, h, Option.toList, List.flatMap_append]
  simp
theorem flat_take_len {α β : Type} (f : α → List β) (l : List α) (i : Nat) : ((l.take i).flatMap f).length ≤ (l.flatMap f).length := by
  have e := List.take_append_drop i l
  have : (l.flatMap f).length = ((l.take i).flatMap f).length + ((l.drop i).flatMap f).length := by
    rw [← List.length_append, ← List.flatMap_append, e]
  omega
end LC

namespace LC
open PySem PySem.Spec PyProof.Rows L2 Evl
theorem dt_strs {K : Frag} {H : Hp} : ∀ (l : List Str), DtAll K H (l.map V.str) (l.map PyData.str)
  | [] => .nil
  | x :: l => .cons (.str x) (dt_strs l)
theorem dt_ints {K : Frag} {H : Hp} : ∀ (l : List Int), DtAll K H (l.map V.int) (l.map PyData.int)
  | [] => .nil
  | x :: l => .cons (.int x) (dt_ints l)
/-- a new list of flat things is handed back -/
theorem flat_ret {K : Frag} {H0 H H' : Hp} {p : Addr} {xs : List V} {d : PyData} {ds : List PyData} {Q : VK} (k : Rt K H0 H d Q) (x : Ex H0 H) (ex : Ex H H') (hp : H p = none) (h : H' p = some (.lst xs)) (fl : DtAll K H0 xs ds) (e : PyData.list ds = d) : Q (.ref p) H' := by
  have hp0 : H0 p = none := fresh_back x hp
  refine k _ H' (upd H0 p (.lst xs)) ⟨ex, Ex.new hp0, fun a u q => ?_, fun a h0 h1 => ?_⟩ (e ▸ .lst upd_same (dpAll_ex (Ex.new hp0) _ _ fl))
  · by_cases z : a = p
    · subst z
      rw [upd_same] at q
      cases q
      exact h
    · rw [upd_ne z] at q
      exact ex a u (x a u q)
  · rw [upd_ne fun z => h1 (by rw [z]; exact hp)]
    exact h0
/-! rows by their places -/
def isSetD : PyData → Bool
  | .tuple (.str w :: _) => w == "set"
  | _ => false
def secondD : PyData → PyData
  | .tuple (_ :: x :: _) => x
  | d => d
theorem sets_data (src : Src) : ((src.map Rw.enc).filter isSetD).map secondD = (setsOf src).map PyData.str := by
  induction src with
  | nil => rfl
  | cons r src ih =>
    cases r with
    | set x s =>
      show (((Rw.set x s).enc :: src.map Rw.enc).filter isSetD).map secondD = ((Rw.set x s).sets ++ setsOf src).map PyData.str
      rw [List.filter_cons, if_pos (by rfl)]
      show PyData.str x :: _ = PyData.str x :: _
      rw [ih]
      rfl
    | shw s =>
      show (((Rw.shw s).enc :: src.map Rw.enc).filter isSetD).map secondD = ((Rw.shw s).sets ++ setsOf src).map PyData.str
      rw [List.filter_cons, if_neg (by show ¬ (("show" : Str) == "set") = true; decide +kernel)]
      exact ih
section
variable {K : Frag} {σ : L2.St} {H : Hp} {te : TE} {r : Rw}
/-- row[0] == "set" -/
theorem ev_isSet (h : EvD K te σ H r.enc) : Ev (tOp (rEqD K) (tOp (rIx K) te (tC (.int 0))) (tC (.str "set"))) σ H (.bl (isSetD r.enc)) := by
  cases r with
  | set x s => exact ev_is (ev_eq (evd_ixT (d := .str "set") h evd_int (atI_0 _ _)) evd_str (by decide +kernel) (by decide +kernel)) rfl
  | shw s => exact ev_is (ev_eq (evd_ixT (d := .str "show") h evd_int (atI_0 _ _)) evd_str (by decide +kernel) (by decide +kernel)) rfl
/-- row[-1] -/
theorem evd_last (h : EvD K te σ H r.enc) : EvD K (tOp (rIx K) te (tUn (rU fun i => .int (-i)) (tC (.int 1)))) σ H r.sum.enc := by
  have m1 : EvD K (tUn (rU fun i => .int (-i)) (tC (.int 1))) σ H (.int (-1)) := evd_i (ev_un (x := .int 1) ev_c ru_neg)
  cases r with
  | set x s => exact evd_ixT h m1 (atI_last [.str "set", .str x] s.enc)
  | shw s => exact evd_ixT h m1 (atI_last [.str "show"] s.enc)
/-- row[1] of a row that sets -/
theorem evd_setName {x : Str} {s : Sm} (h : EvD K te σ H (Rw.set x s).enc) : EvD K (tOp (rIx K) te (tC (.int 1))) σ H (.str x) := evd_ixT h evd_int (atI_1 _ _ _)
end
theorem isSetD_set (x : Str) (s : Sm) : isSetD (Rw.set x s).enc = true := rfl
theorem isSetD_shw (s : Sm) : isSetD (Rw.shw s).enc = false := by
  show (("show" : Str) == "set") = false
  decide +kernel
def addName (ms : List Str) (f : List Str) (x : Str) : List Str := if x ∈ ms ∨ x ∈ f then f else f ++ [x]
theorem addName_len (ms f : List Str) (x : Str) : (addName ms f x).length ≤ f.length + 1 := by
  unfold addName
  split <;> simp
theorem foldl_addName_len (ms : List Str) : ∀ (l f : List Str), (l.foldl (addName ms) f).length ≤ f.length + l.length
  | [], f => by simp
  | x :: l, f => by
    have := foldl_addName_len ms l (addName ms f x)
    have := addName_len ms f x
    simp only [List.foldl_cons, List.length_cons]
    omega
theorem readsGo_eq (acc : List Str × List Str) (r : Rw) : readsGo acc r = (r.sum.names.foldl (addName acc.2) acc.1, acc.2 ++ r.sets) := rfl
theorem reads_len (src : Src) (h : ∀ r ∈ src, r.good = true) : ∀ acc : List Str × List Str, (src.foldl readsGo acc).1.length ≤ acc.1.length + 729 * src.length := by
  induction src with
  | nil => intro acc; simp
  | cons r src ih =>
    intro acc
    have h1 := ih (fun q hq => h q (List.mem_cons_of_mem _ hq)) (readsGo acc r)
    have h2 := foldl_addName_len acc.2 r.sum.names acc.1
    have g := Rw.good_sum (h r (List.mem_cons_self ..))
    have h3 : r.sum.names.length ≤ 729 := Nat.le_trans (names_len _) (Nat.le_trans (Nat.pow_le_pow_right (by omega) g.2) (by decide))
    rw [List.foldl_cons, List.length_cons]
    rw [readsGo_eq] at h1 ⊢
    simp only at h1
    omega
theorem take_foldl {α β : Type} (f : β → α → β) {l : List α} {i : Nat} {a : α} (h : l[i]? = some a) (b : β) : (l.take (i + 1)).foldl f b = f ((l.take i).foldl f b) a := by
  rw [List.take_add_one, h, Option.toList, List.foldl_append] <;> rfl
theorem inD_strs (x : Str) (l : List Str) : inD (.str x) (l.map PyData.str) = decide (x ∈ l) := inD_str
theorem mine_len (src : Src) : ∀ acc : List Str × List Str, (src.foldl readsGo acc).2.length ≤ acc.2.length + src.length := by
  induction src with
  | nil => intro acc; simp
  | cons r src ih =>
    intro acc
    have h1 := ih (readsGo acc r)
    rw [List.foldl_cons, List.length_cons]
    rw [readsGo_eq] at h1 ⊢
    simp only [List.length_append] at h1
    have : r.sets.length ≤ 1 := by cases r <;> simp [Rw.sets]
    omega
end LC

namespace LC
open PySem PySem.Spec PyProof.Rows L2
/-! ### sets of ints and texts, walked: over HandS.Set's own, with both kinds of keys -/
def kOf (e : Int × Value) : Key := match e.2 with
  | .int k _ => .inl k
  | .str x _ => .inr x
  | _ => .inl 0
def GoodQ (w : World) (e : Int × Value) : Prop := (∃ k tk, e.2 = Value.int k tk ∧ e.1 = hashInt k) ∨ ∃ x tk, e.2 = Value.str x tk ∧ e.1 = hashStr w x
/-- the keys L stand in the set at a; it can be walked -/
def SetQ (w : World) (h : Heap) (a : Addr) (L : List Key) : Prop := ∃ o es ep t, h.get? a = some o ∧ o.ExactSet ∧ o.data = .set es ep t ∧ (∀ e ∈ es.toList, GoodQ w e) ∧ (es.toList.map kOf).Perm L ∧ L.Nodup ∧
  es.size < scanBound ∧ t.fits es.size = true ∧ Ris t.place.toList ∧ (w.params.followText "set-order" = true ∨ t.led = true)
open Classical in
noncomputable def addK (L : List Key) (k : Key) : List Key := if k ∈ L then L else k :: L
section
variable {P : Program} {w : World} {A : Around} {E : Value → Shared → Prop} {s : Shared} {a : Addr} {L : List Key} {k : Key} {u : Value}
theorem goodQ_elems {l : List (Int × Value)} (gq : ∀ e ∈ l, GoodQ w e) : ElemsOf (mixKind P w) l := fun e he => by
  rcases gq e he with ⟨k, tk, h1, h2⟩ | ⟨x, tk, h1, h2⟩
  · exact ⟨⟨.inl k, by rw [h1]; exact keyIs_int k tk, h2⟩, by rw [h1] <;> rfl⟩
  · exact ⟨⟨.inr x, by rw [h1]; exact keyIs_str x tk, h2⟩, by rw [h1] <;> rfl⟩
theorem goodQ_is {e : Int × Value} (gq : GoodQ w e) (k : Key) : (mixKind P w).is k e.2 = true ↔ kOf e = k := by
  unfold kOf
  rcases gq with ⟨j, tk, h1, _⟩ | ⟨x, tk, h1, _⟩
  · rw [h1]
    cases k with
    | inl i =>
      show ((j == i) = true) ↔ (Sum.inl j : Key) = Sum.inl i
      simp
    | inr y =>
      show (Value.isStrOf y (Value.int j tk) = true) ↔ (Sum.inl j : Key) = Sum.inr y
      simp [Value.isStrOf]
  · rw [h1]
    cases k with
    | inl i =>
      show (Value.isInt i (Value.str x tk) = true) ↔ (Sum.inr x : Key) = Sum.inl i
      simp [Value.isInt]
    | inr y =>
      show (Value.isStrOf y (Value.str x tk) = true) ↔ (Sum.inr x : Key) = Sum.inr y
      simp [Value.isStrOf]
theorem goodQ_mem {l : List (Int × Value)} (gq : ∀ e ∈ l, GoodQ w e) (k : Key) : k ∈ l.map kOf ↔ ∃ e ∈ l, (mixKind P w).is k e.2 = true := by
  rw [List.mem_map]
  exact ⟨fun ⟨e, he, q⟩ => ⟨e, he, (goodQ_is (gq e he) k).2 q⟩, fun ⟨e, he, q⟩ => ⟨e, he, (goodQ_is (gq e he) k).1 q⟩⟩
theorem setQ_tail {g : Bool → Sem Unit} (hg : ∀ (b : Bool) (s₁ : Shared) (Q' : Unit → Shared → Prop), Q' () s₁ → wpAny (model P w) A (g b) Q' E s₁)
    {o : Obj} {es : Array (Int × Value)} {ep : Nat} {t : SetTable} (ob : s.heap.get? a = some o) (oe : o.ExactSet) (od : o.data = .set es ep t)
    {xs : Array (Int × Value)} {t2 : SetTable} (gq : ∀ e ∈ xs.toList, GoodQ w e) (pm0 : (xs.toList.map kOf).Perm L) (nd : L.Nodup)
    (few : xs.size < scanBound) (fit : t2.fits xs.size = true) (ri : Ris t2.place.toList) (le : w.params.followText "set-order" = true ∨ t2.led = true) {wasDummy : Bool} {R : Option Bool → Shared → Prop}
    (hR : ∀ h', Heap.SameBut a s.heap h' → SetQ w h' a L → R (some true) { s with heap := h' }) :
    wpAny (model P w) A (do
        storeSet a xs t2
        if (!wasDummy && t2.tooFull) = true then do
            g (relayAll t2 xs (SetTable.grown xs.size)).2.2
            storeSet a (relayAll t2 xs (SetTable.grown xs.size)).1 (relayAll t2 xs (SetTable.grown xs.size)).2.1
            pure (some true)
          else pure (some true)) R E s := by
  refine wpAny_bind (wpAny_storeSet_of ob od ?_ (fits_of_scanBound few))
  have ob1 := store_at (es' := xs) (t' := t2) ob od
  have sm1 := Heap.SameBut.update s.heap a (Obj.putSet xs t2)
  split
  · have pm := relayAll_perm t2 xs (SetTable.grown xs.size)
    have f3 := relayAll_fits t2 xs (SetTable.grown xs.size)
    have r3 := relayAll_ris t2 xs (SetTable.grown xs.size)
    have l3 := relayAll_led t2 xs (SetTable.grown xs.size)
    generalize relayAll t2 xs (SetTable.grown xs.size) = Z at pm f3 r3 l3 ⊢
    obtain ⟨ys, t3, gave⟩ := Z
    dsimp only at pm f3 r3 l3 ⊢
    have sz : ys.size = xs.size := by rw [← Array.length_toList, pm.length_eq, Array.length_toList]
    have few2 : ys.size < scanBound := by rw [sz]; exact few
    refine wpAny_bind (hg _ _ _ (wpAny_bind (wpAny_storeSet_of ob1 rfl ?_ (fits_of_scanBound few2))))
    have ob2 := store_at (es' := ys) (t' := t3) ob1 rfl
    exact wpAny_pure (hR _ (sm1.trans (Heap.SameBut.update _ a _)) ⟨_, ys, _, t3, ob2, oe, rfl, fun e he => gq e (pm.mem_iff.mp he), (pm.map kOf).trans pm0, nd, few2, f3, r3, le.imp id fun z => by rw [l3]; exact z⟩)
  · exact wpAny_pure (hR _ sm1 ⟨_, xs, _, t2, ob1, oe, rfl, gq, pm0, nd, few, fit, ri, le⟩)
theorem kV_good {w : World} (r : RelV (kV k) u) : GoodQ w ((mixKind P w).hash k, u) ∧ kOf ((mixKind P w).hash k, u) = k ∧ u.scannable = true := by
  cases k with
  | inl i =>
    obtain ⟨t, rfl⟩ := r
    exact ⟨.inl ⟨i, t, rfl, rfl⟩, rfl, rfl⟩
  | inr x =>
    obtain ⟨t, rfl⟩ := r
    exact ⟨.inr ⟨x, t, rfl, rfl⟩, rfl, rfl⟩
theorem setQ_hashed {Q : Bool → Shared → Prop} (R : SetQ w s.heap a L) (rk : RelV (kV k) u) (room : L.length + 1 < scanBound) (hQ : ∀ h' b, Heap.SameBut a s.heap h' → SetQ w h' a (addK L k) → Q b { s with heap := h' }) :
    wpAny (model P w) A (setAddHashed a u ((mixKind P w).hash k)) Q E s := by
  obtain ⟨o, es, ep, t, ob, oe, od, gq, pm0, nd, few, fit, ri, le⟩ := R
  obtain ⟨gu, eu, su⟩ := kV_good (P := P) (w := w) rk
  have hkey : (mixKind P w).is k u = true := kV_is rk
  have els : ElemsOf (mixKind P w) es.toList := goodQ_elems gq
  unfold setAddHashed setAddHashedIn
  refine wpAny_holding (wpAny_bind (wpAny_setState_of ob od fit ?_))
  dsimp only
  rw [byScan_of su few els]
  simp only [↓reduceIte]
  unfold setAddByScan
  refine wpAny_bind (wpAny_bind (wpAny_rule (wpAny_bind (wpAny_setScan_of hkey ob od fit els ?_))))
  cases fi : List.findIdx? (fun e => (mixKind P w).is k e.2) es.toList with
  | some j =>
    dsimp only
    obtain ⟨hj, pj, _⟩ := List.findIdx?_eq_some_iff_getElem.mp fi
    have inL : k ∈ L := pm0.mem_iff.mp ((goodQ_mem (P := P) gq k).2 ⟨es.toList[j], List.getElem_mem hj, pj⟩)
    refine wpAny_pure (wpAny_pure ?_)
    have q := hQ s.heap false (Heap.SameBut.refl a s.heap) (by
      unfold addK
      rw [if_pos inL]
      exact ⟨o, es, ep, t, ob, oe, od, gq, pm0, nd, few, fit, ri, le⟩)
    exact q
  | none =>
    dsimp only
    have nin : k ∉ es.toList.map kOf := fun z => by
      obtain ⟨e, he, q⟩ := (goodQ_mem (P := P) gq k).1 z
      have c := List.findIdx?_eq_none_iff.mp fi e he
      rw [q] at c
      cases c
    have ninL : k ∉ L := fun z => nin (pm0.mem_iff.mpr z)
    have gw : ∀ (b : Bool) {s₁ : Shared} {Q' : Unit → Shared → Prop}, Q' () s₁ → wpAny (model P w) A (match b with | true => rule "set.scan.the-table-gave-way" | false => pure ()) Q' E s₁ := fun b s₁ Q' q => by
      cases b
      · exact wpAny_pure q
      · exact wpAny_rule q
    have pm := layNew_perm t es ((mixKind P w).hash k) u
    have f1 := layNew_fits t es ((mixKind P w).hash k) u
    have r1 := layNew_ris t es ((mixKind P w).hash k) u ri
    have l1 := layNew_led t es ((mixKind P w).hash k) u
    generalize layNew t es ((mixKind P w).hash k) u = Z at pm f1 r1 l1 ⊢
    obtain ⟨xs, t1, wasDummy, gave⟩ := Z
    dsimp only at pm f1 r1 l1 ⊢
    rw [Array.toList_push] at pm
    have pc : xs.toList.Perm (((mixKind P w).hash k, u) :: es.toList) := pm.trans (List.perm_append_singleton _ _)
    have pk : (xs.toList.map kOf).Perm (addK L k) := by
      unfold addK
      rw [if_neg ninL]
      have z := pc.map kOf
      rw [List.map_cons, eu] at z
      exact z.trans (pm0.cons k)
    have ndk : (addK L k).Nodup := by
      unfold addK
      rw [if_neg ninL]
      exact List.nodup_cons.mpr ⟨ninL, nd⟩
    have g1 : ∀ e ∈ xs.toList, GoodQ w e := fun e he => by
      rcases List.mem_cons.mp (pc.mem_iff.mp he) with z | z
      · rw [z]; exact gu
      · exact gq e z
    have few1 : xs.size < scanBound := by
      have z := pk.length_eq
      unfold addK at z
      rw [if_neg ninL, List.length_map, Array.length_toList, List.length_cons] at z
      omega
    have led1 : w.params.followText "set-order" = true ∨ t1.led = true := le.imp id fun z => by rw [l1]; exact z
    refine wpAny_bind (gw _ ?_)
    split
    · refine wpAny_bind ?_
      rw [hashByValue_scannable 8 su]
      refine wpAny_pure ?_
      refine setQ_tail (L := addK L k) ?_ ob oe od g1 pk ndk few1 ?_ ?_ ?_ ?_
      · intro b s₁ Q' q
        cases b
        · exact wpAny_pure q
        · exact wpAny_rule q
      · first | (split <;> first | exact f1 | exact SetTable.fits_plain_off f1) | exact f1
      · first | (split <;> exact r1) | exact r1
      · first | (split <;> exact led1) | exact led1
      · intro h' sb r
        dsimp only
        exact wpAny_pure (hQ h' _ sb r)
    · refine wpAny_bind (wpAny_pure ?_)
      simp only [↓reduceIte]
      refine setQ_tail (L := addK L k) ?_ ob oe od g1 pk ndk few1 f1 r1 led1 ?_
      · intro b s₁ Q' q
        cases b
        · exact wpAny_pure q
        · exact wpAny_rule q
      · intro h' sb r
        dsimp only
        exact wpAny_pure (hQ h' _ sb r)
end
end LC

namespace LC
open PySem PySem.Spec PyProof.Rows L2
abbrev newSet (w : World) : Obj := { cls := .type "set", dict := none, data := .set #[] 0 (.fresh 0 0 (!w.params.followText "set-order")) }
section
variable {P : Program} {w : World} {A : Around} {E : Value → Shared → Prop} {s : Shared}
theorem SetQ.keep {h h' : Heap} {a : Addr} {L : List Key} (R : SetQ w h a L) (k : ∀ o, h.get? a = some o → h'.get? a = some o) : SetQ w h' a L := by
  obtain ⟨o, es, ep, t, ob, r⟩ := R
  exact ⟨o, es, ep, t, k o ob, r⟩
theorem setQ_fresh {h : Heap} {a : Addr} (ob : h.get? a = some (newSet w)) : SetQ w h a [] := by
  refine ⟨_, #[], 0, _, ob, ⟨rfl, rfl, rfl⟩, rfl, fun e he => (by simp at he), List.Perm.nil, List.nodup_nil, by decide, by rfl, List.Pairwise.nil, ?_⟩
  show _ ∨ (!w.params.followText "set-order") = true
  cases w.params.followText "set-order"
  · exact .inr rfl
  · exact .inl rfl
theorem addK_len (L : List Key) (k : Key) : (addK L k).length ≤ L.length + 1 := by
  unfold addK
  split
  · omega
  · simp
theorem foldl_addK_len : ∀ (ks L : List Key), (ks.foldl addK L).length ≤ L.length + ks.length
  | [], L => by simp
  | k :: ks, L => by
    have h1 := foldl_addK_len ks (addK L k)
    have h2 := addK_len L k
    simp only [List.foldl_cons, List.length_cons]
    omega
/-- the loop of set.update over keys -/
theorem setQ_loop {I : Addr} {fp wr : List Addr} {G : Array GenState → Array GenState → Prop} {n : Nat} {Pv : Nat → Value → Prop} {St : Nat → Shared → Prop} {R : Result → Shared → Prop}
    (W : WalksS P w A.in1 I fp wr G n Pv St) (S : Addr) (nf : S ∉ fp) (ks : List Key) (en : n = ks.length) (few : ks.length + 1 < scanBound) (val : ∀ i v, Pv i v → ∃ k, ks[i]? = some k ∧ RelV (kV k) v) :
    ∀ (c i : Nat) (s : Shared), n - i = c → i ≤ n → St i s → SetQ w s.heap S ((ks.take i).foldl addK []) → (∀ s', Moved (S :: wr) G s s' → SetQ w s'.heap S (ks.foldl addK []) → R (.ok (.ret .none)) s') →
      codeAny (model P w) A (.builtin "set.update.loop" ⟨[.ref S, .ref I], []⟩) R s := by
  have nw : S ∉ wr := fun z => nf (W.sub _ z)
  have up : ∀ b ∈ wr, b ∈ S :: wr := fun b hb => List.mem_cons_of_mem _ hb
  intro c
  induction c with
  | zero =>
    intro i s hc hi st hS hR
    obtain rfl : i = n := by omega
    refine codeAny_builtin F.entry_set_update_loop ?_
    rw [Around.under_plainId F.plain_set_update_loop _]
    show wpAny _ A.in1 (pyNext (.ref I) >>= _) _ _ s
    refine wpAny_bind (W.done s _ _ st fun s' mv => ?_)
    show wpAny _ A.in1 (ret Value.none) _ _ s'
    refine wpAny_pure (hR s' (mv.mono up) (SetQ.keep ?_ fun o e => mv.heap S o nw e))
    rw [en, List.take_length] at hS
    exact hS
  | succ c ih =>
    intro i s hc hi st hS hR
    have lt : i < n := by omega
    refine codeAny_builtin F.entry_set_update_loop ?_
    rw [Around.under_plainId F.plain_set_update_loop _]
    show wpAny _ A.in1 (pyNext (.ref I) >>= _) _ _ s
    refine wpAny_bind (W.item i s _ _ lt st fun v s' pv st' mv => ?_)
    obtain ⟨k, hk, rk⟩ := val i v pv
    have hS' : SetQ w s'.heap S ((ks.take i).foldl addK []) := hS.keep fun o e => mv.heap S o nw e
    show wpAny _ A.in1 (holding [v] (setAdd S v) >>= _) _ _ s'
    refine wpAny_bind (wpAny_holding ?_)
    unfold setAdd
    refine wpAny_holding (wpAny_bind ((mixKind P w).pyHash (k := k) (kV_is rk) ?_))
    have ll := foldl_addK_len (ks.take i) []
    rw [List.length_take, List.length_nil] at ll
    refine setQ_hashed (s := { s' with toks := s'.toks + 1 }) hS' rk (by omega) fun h' b sb hS2 => ?_
    have e1 : (ks.take (i + 1)).foldl addK [] = addK ((ks.take i).foldl addK []) k := take_foldl addK hk []
    rw [← e1] at hS2
    refine wpAny_pure ⟨plainId_quiet F.plain_set_update_loop _, ih (i + 1) _ (by omega) lt (W.frame _ s' _ _ st' (Nat.le_succ _) fun b hb o e => ?_) hS2 fun s'' mv2 hS3 => ?_⟩
    · rw [sb.2 b fun z : b = S => nf (by rw [← z]; exact hb)]
      exact e
    · refine hR s'' (Moved.trans W.gtrans ((mv.mono up).then_heap (Nat.le_succ _) fun b o hb e => ?_) mv2) hS3
      rw [sb.2 b fun z : b = S => hb (by rw [z]; exact List.mem_cons_self)]
      exact e
/-- set(xs), xs a list of ints and texts -/
theorem setQ_of {l : Addr} {items : Array Value} (ks : List Key) {Q : Value → Shared → Prop} (hh : A.handled = none) (hl : s.heap.IsList l items) (rel : Vals (ks.map kV) items.toList) (few : ks.length + 1 < scanBound)
    (h : ∀ (h' : Heap) (tk : Nat), SetQ w h' s.heap.objs.size (ks.foldl addK []) → (∀ b o, s.heap.get? b = some o → h'.get? b = some o) → Q (.ref s.heap.objs.size) { s with heap := h', toks := tk }) :
    wpAny (model P w) A (call (.type "set") [.ref l]) Q E s := by
  have isz : items.size = ks.length := by
    have q : (ks.map kV).length = items.toList.length := rel.length
    rw [List.length_map] at q
    simpa using q.symm
  obtain ⟨c0, tl0, mro0⟩ := F.called_set.mro
  have made0 := F.called_set.made
  have sub0 := F.called_set.sub
  refine wpAny_call (codeAny_of_tree ?_)
  show wpAny _ _ (callAny (.type "set") _) _ _ _
  refine wpAny_pure ⟨Code.quiet_builtin _ (by decide +kernel), codeAny_builtin F.entry_type_call ?_⟩
  rw [Around.under_plain (weight_type_call_type "set" [.ref l] []) rfl]
  have not0 := F.called_set.notType
  have can0 := F.called_set.canCreate
  have call0 := F.typeCall_set_1 (.ref l)
  repeat (any_goals (first | assumption | wp_step))
  refine codeAny_mono (code_set_led1 (.ref l) (E := E) (Q₁ := fun obj s₁ => obj = .ref s.heap.objs.size ∧ s₁ = { s with heap := s.heap.push (newSet w) }) ⟨rfl, rfl⟩) fun r s₁ hr => ?_
  cases r with
  | error e => exact hr
  | ok fl =>
    cases fl with
    | ret obj =>
      obtain ⟨rfl, rfl⟩ := hr
      have ob : (s.heap.push (newSet w)).get? s.heap.objs.size = some (newSet w) := Heap.get?_push_size _ rfl
      have ty : Shared.TypeIs { s with heap := s.heap.push (newSet w) } (.ref s.heap.objs.size) "set" := ⟨_, ob, rfl⟩
      have li0 := F.called_set.init.lookup
      have bi0 := F.called_set.init.bind (.ref s.heap.objs.size)
      repeat (any_goals (first | assumption | wp_step))
      refine codeAny_mono (codeAny_call_builtin (R := wants (fun r s₂ => r = .none ∧ ∃ h' tk, s₂ = { s with heap := h', toks := tk } ∧ SetQ w h' s.heap.objs.size (ks.foldl addK []) ∧ ∀ b o, s.heap.get? b = some o → h'.get? b = some o) E)
        F.called_set.init.plain F.entry_set_init (check_set_init_1 ty ?_)) fun r₂ s₂ hr₂ => ?_
      · obtain ⟨ol, hol, hcl, nl, hdl⟩ := hl
        obtain ⟨ocls, odict, odata, oslots⟩ := ol
        simp only at hcl hdl
        subst hcl hdl
        have hol2 : (s.heap.push (newSet w)).get? l = some { cls := .type "list", dict := odict, data := .seq items nl, slots := oslots } := Heap.get?_push_of_some _ hol
        have f1 := F.sub_list_set
        have f2 := F.sub_list_frozenset
        have f3 : (Value.type "list" == Value.type "dict") = false := by decide
        have isl : (s.heap.push (newSet w)).IsList l items := ⟨_, hol2, rfl, nl, rfl⟩
        unfold Builtin.«set.__init__» noKeywords Builtin.Frozenset.updateFrom
        generalize hPI : pyIter = PI
        wp_walk
        subst hPI
        refine wpAny_pyIter_list isl (wpAny_bind (wpAny_runValue ?_))
        have ls : l < s.heap.objs.size := Heap.lt_size hol
        have h3 : A.in1.in1.in1.handled = none := by simp [hh]
        have ne1 : l ≠ (s.heap.push (newSet w)).objs.size := by
          rw [Heap.size_push]
          exact Nat.ne_of_lt (Nat.lt_succ_of_lt ls)
        have nf : s.heap.objs.size ∉ [(s.heap.push (newSet w)).objs.size, l] := by
          rw [Heap.size_push]
          simp only [List.mem_cons, List.not_mem_nil, or_false, not_or]
          exact ⟨Nat.ne_of_lt (Nat.lt_succ_self _), Nat.ne_of_gt ls⟩
        have val : ∀ (i : Nat) (v : Value), items[i]? = some v → ∃ k, ks[i]? = some k ∧ RelV (kV k) v := fun i v hv => by
          have q : items.toList[i]? = some v := by rw [Array.getElem?_toList]; exact hv
          cases hq : ks[i]? with
          | none =>
            have z := rel.none_of (i := i) (by rw [List.getElem?_map, hq] <;> rfl)
            rw [q] at z
            cases z
          | some k =>
            obtain ⟨u, hu, ru⟩ := rel.get (i := i) (x := kV k) (by rw [List.getElem?_map, hq] <;> rfl)
            rw [q] at hu
            cases hu
            exact ⟨k, rfl, ru⟩
        refine setQ_loop ((Walks.list h3 _ l ne1 items).toS) s.heap.objs.size nf ks isz few val (items.size - 0) 0 _ (by omega) (Nat.zero_le _) ⟨⟨_, Heap.get?_push_size _ rfl, rfl, rfl⟩, (isl.push _)⟩ (setQ_fresh (Heap.get?_push_of_some _ ob)) fun s' mv hS => ?_
        obtain ⟨h', g2, d2, tk2, os2⟩ := s'
        have eg : g2 = s.gens := mv.gens
        have ed : d2 = s.drawn := mv.drawn
        have eo : os2 = s.os := mv.os
        subst eg ed eo
        show wpAny _ _ _ _ _ _
        refine wpAny_pure ?_
        show wpAny _ _ (ret Value.none) _ _ _
        refine wpAny_pure ⟨rfl, h', tk2, rfl, hS, fun b o e => mv.heap b o ?_ (Heap.get?_push_of_some _ (Heap.get?_push_of_some _ e))⟩
        have lb := Heap.lt_size e
        simp only [List.mem_cons, List.not_mem_nil, or_false, not_or]
        refine ⟨Nat.ne_of_lt lb, ?_⟩
        rw [Heap.size_push]
        exact Nat.ne_of_lt (Nat.lt_succ_of_lt lb)
      · cases r₂ with
        | error e => exact hr₂
        | ok fl₂ =>
          cases fl₂ with
          | ret r =>
            obtain ⟨rfl, h', tk, rfl, hS, hk⟩ := hr₂
            repeat (any_goals (first | assumption | wp_step))
            exact h _ _ hS hk
          | _ => exact hr₂.elim
    | _ => exact hr.elim
/-- the members of a set of texts, of ints, in some order -/
theorem strs_of_keys : ∀ (l : List (Int × Value)) (xs : List Str), (∀ e ∈ l, GoodQ w e) → l.map kOf = xs.map Sum.inr → StrsAre (l.map (·.2)) xs
  | [], [], _, _ => .nil
  | [], _ :: _, _, h => by simp at h
  | _ :: _, [], _, h => by simp at h
  | e :: l, x :: xs, g, h => by
    simp only [List.map_cons, List.cons.injEq] at h
    have ih := strs_of_keys l xs (fun q hq => g q (List.mem_cons_of_mem _ hq)) h.2
    rcases g e (List.mem_cons_self ..) with ⟨k, tk, h1, _⟩ | ⟨y, tk, h1, _⟩
    · have z := h.1
      unfold kOf at z
      rw [h1] at z
      cases z
    · have z := h.1
      unfold kOf at z
      rw [h1] at z
      cases z
      rw [List.map_cons, h1]
      exact .cons x tk ih
theorem ints_of_keys : ∀ (l : List (Int × Value)) (xs : List Int), (∀ e ∈ l, GoodQ w e) → l.map kOf = xs.map Sum.inl → IntsAre (l.map (·.2)) xs
  | [], [], _, _ => .nil
  | [], _ :: _, _, h => by simp at h
  | _ :: _, [], _, h => by simp at h
  | e :: l, x :: xs, g, h => by
    simp only [List.map_cons, List.cons.injEq] at h
    have ih := ints_of_keys l xs (fun q hq => g q (List.mem_cons_of_mem _ hq)) h.2
    rcases g e (List.mem_cons_self ..) with ⟨k, tk, h1, _⟩ | ⟨y, tk, h1, _⟩
    · have z := h.1
      unfold kOf at z
      rw [h1] at z
      cases z
      rw [List.map_cons, h1]
      exact .cons x tk ih
    · have z := h.1
      unfold kOf at z
      rw [h1] at z
      cases z
end
end LC

namespace LC
open PySem PySem.Spec PyProof.Rows L2 Evl
/-! ### each once -/
def nub {α : Type} [DecidableEq α] : List α → List α
  | [] => []
  | x :: l => x :: (nub l).filter (fun y => decide (y ≠ x))
section
variable {α : Type} [DecidableEq α]
theorem mem_nub (x : α) : ∀ l : List α, x ∈ nub l ↔ x ∈ l
  | [] => Iff.rfl
  | y :: l => by
    have ih := mem_nub x l
    show x ∈ y :: (nub l).filter (fun z => decide (z ≠ y)) ↔ x ∈ y :: l
    rw [List.mem_cons, List.mem_cons, List.mem_filter, ih]
    simp only [ne_eq, decide_not, Bool.not_eq_true', decide_eq_false_iff_not]
    by_cases h : x = y
    · simp [h]
    · simp [h]
theorem nub_nodup : ∀ l : List α, (nub l).Nodup
  | [] => List.nodup_nil
  | y :: l => by
    refine List.nodup_cons.mpr ⟨fun z => ?_, (nub_nodup l).sublist List.filter_sublist⟩
    simp at z
theorem nub_len : ∀ l : List α, (nub l).length ≤ l.length
  | [] => Nat.le_refl _
  | y :: l => by
    have h1 := nub_len l
    have h2 := List.length_filter_le (fun z => decide (z ≠ y)) (nub l)
    show ((nub l).filter (fun z => decide (z ≠ y))).length + 1 ≤ l.length + 1
    omega
end
/-! ### the order of texts -/
def leS (x y : Str) : Bool := !ltCps y.cps.toList x.cps.toList
theorem lt_trans0 : ∀ a b c : List Nat, ltCps b a = false → ltCps c b = false → ltCps c a = false := by
  intro a
  induction a with
  | nil => intro b c h1 h2; cases c <;> simp_all [ltCps]
  | cons x a ih =>
    intro b c h1 h2
    cases b with
    | nil => simp [ltCps] at h1
    | cons y b =>
      cases c with
      | nil => simp [ltCps] at h2
      | cons z c =>
        simp only [ltCps, Bool.or_eq_false_iff, Bool.and_eq_false_iff, decide_eq_false_iff_not, beq_eq_false_iff_ne] at h1 h2 ⊢
        refine ⟨by omega, ?_⟩
        by_cases e : z = x
        · right
          have e1 : y = x := by omega
          have e2 : z = y := by omega
          rcases h1.2 with q | q
          · exact absurd e1 q
          · rcases h2.2 with q2 | q2
            · exact absurd e2 q2
            · exact ih b c q q2
        · exact .inl e
theorem lt_anti0 : ∀ a b : List Nat, ltCps b a = false → ltCps a b = false → a = b := by
  intro a
  induction a with
  | nil => intro b h1 h2; cases b <;> simp_all [ltCps]
  | cons x a ih =>
    intro b h1 h2
    cases b with
    | nil => simp [ltCps] at h1
    | cons y b =>
      simp only [ltCps, Bool.or_eq_false_iff, Bool.and_eq_false_iff, decide_eq_false_iff_not, beq_eq_false_iff_ne] at h1 h2
      have e : x = y := by omega
      subst e
      rw [ih b (h1.2.resolve_left (fun z => z rfl)) (h2.2.resolve_left fun z => z rfl)]
theorem lt_total0 : ∀ a b : List Nat, ltCps b a = false ∨ ltCps a b = false := by
  intro a
  induction a with
  | nil => intro b; left; cases b <;> simp [ltCps]
  | cons x a ih =>
    intro b
    cases b with
    | nil => right; simp [ltCps]
    | cons y b =>
      simp only [ltCps, Bool.or_eq_false_iff, Bool.and_eq_false_iff, decide_eq_false_iff_not, beq_eq_false_iff_ne]
      rcases ih b with q | q
      · by_cases e : y < x
        · exact .inr ⟨by omega, .inl (by omega)⟩
        · exact .inl ⟨e, .inr q⟩
      · by_cases e : x < y
        · exact .inl ⟨by omega, .inl (by omega)⟩
        · exact .inr ⟨e, .inr q⟩
end LC
namespace LC
open PySem PySem.Spec PyProof.Rows L2 Evl
theorem rising_pair : ∀ (l : List Str) (p : Str), risingS p l = true → (p :: l).Pairwise (fun a b => leS a b = true)
  | [], p, _ => List.pairwise_singleton _ _
  | x :: l, p, h => by
    have h : (!ltCps x.cps.toList p.cps.toList && risingS x l) = true := h
    rw [Bool.and_eq_true] at h
    have ih := rising_pair l x h.2
    refine List.pairwise_cons.mpr ⟨fun y hy => ?_, ih⟩
    rcases List.mem_cons.mp hy with rfl | hy
    · exact h.1
    · have h2 := (List.pairwise_cons.mp ih).1 y hy
      have e1 : ltCps x.cps.toList p.cps.toList = false := by simpa using h.1
      have e2 : ltCps y.cps.toList x.cps.toList = false := by simpa [leS] using h2
      show (!ltCps y.cps.toList p.cps.toList) = true
      rw [lt_trans0 _ _ _ e1 e2] <;> rfl
theorem sorted_pair {l : List Str} (h : sortedS l = true) : l.Pairwise (fun a b => leS a b = true) := by
  cases l with
  | nil => exact List.Pairwise.nil
  | cons x l => exact rising_pair l x h
/-- each once, rising -/
def sortU (xs : List Str) : List Str := (nub xs).mergeSort leS
def sortI (xs : List Int) : List Int := (nub xs).mergeSort fun a b => decide (a ≤ b)
theorem leS_anti {x y : Str} (h1 : leS x y = true) (h2 : leS y x = true) : x = y := by
  have e := lt_anti0 x.cps.toList y.cps.toList (by simpa [leS] using h1) (by simpa [leS] using h2)
  obtain ⟨⟨l1⟩⟩ := x
  obtain ⟨⟨l2⟩⟩ := y
  have e : l1 = l2 := e
  rw [e]
theorem sortU_eq {xs ys : List Str} (hn : ys.Nodup) (hm : ∀ x, x ∈ ys ↔ x ∈ xs) (hs : sortedS ys = true) : ys = sortU xs := by
  have pm : ys.Perm (nub xs) := (List.perm_ext_iff_of_nodup hn (nub_nodup xs)).mpr fun x => (hm x).trans (mem_nub x xs).symm
  refine (pm.trans (List.mergeSort_perm _ _).symm).eq_of_pairwise (fun x y _ _ h1 h2 => leS_anti h1 h2) (sorted_pair hs) (List.pairwise_mergeSort ?_ ?_ _)
  · intro a b c h1 h2
    show (!ltCps c.cps.toList a.cps.toList) = true
    rw [lt_trans0 a.cps.toList b.cps.toList c.cps.toList (by simpa [leS] using h1) (by simpa [leS] using h2)] <;> rfl
  · intro a b
    rcases lt_total0 a.cps.toList b.cps.toList with q | q <;> simp [leS, q]
theorem sortI_eq {xs ys : List Int} (hn : ys.Nodup) (hm : ∀ x, x ∈ ys ↔ x ∈ xs) (hs : ys.Pairwise (· ≤ ·)) : ys = sortI xs := by
  have pm : ys.Perm (nub xs) := (List.perm_ext_iff_of_nodup hn (nub_nodup xs)).mpr fun x => (hm x).trans (mem_nub x xs).symm
  refine (pm.trans (List.mergeSort_perm _ _).symm).eq_of_pairwise (le := fun a b => a ≤ b) (fun x y _ _ h1 h2 => Int.le_antisymm h1 h2) hs ?_
  have h := List.pairwise_mergeSort (le := fun a b : Int => decide (a ≤ b)) (by intro a b c h1 h2; simp at h1 h2 ⊢; omega) (by intro a b; simp; omega) (nub xs)
  exact h.imp fun z => by simpa using z
theorem mem_addK {x k : Key} {L : List Key} : x ∈ addK L k ↔ x ∈ L ∨ x = k := by
  unfold addK
  split
  · rename_i h
    exact ⟨.inl, fun z => z.elim id fun e => e ▸ h⟩
  · rw [List.mem_cons]
    exact Or.comm
theorem mem_foldK {x : Key} : ∀ (ks L : List Key), x ∈ ks.foldl addK L ↔ x ∈ L ∨ x ∈ ks
  | [], L => by simp
  | k :: ks, L => by
    rw [List.foldl_cons, mem_foldK ks, mem_addK, List.mem_cons, or_assoc]
/-- a set of keys, as an object -/
def SetQO (w : World) (a : Addr) (L : List Key) : HO := .ext fun h => SetQ w h a L
theorem setQO_new {P : Program} {w : World} {H : Hp} {h : Heap} {a : Addr} {L : List Key} (R : SetQ w h a L) : ObjOk P w H h a (SetQO w a L) := by
  have ⟨o, _, _, _, ho, _⟩ := R
  exact ⟨R, ⟨o, ho⟩, fun h1 h2 p k => SetQ.keep p k⟩
def rSetQ (K : Frag) (w : World) : List V → Hp → VK → Prop := fun xs H Q => ∃ (l : Addr) (ks : List Key), xs = [V.ref l] ∧ SqL K H l (ks.map kV) ∧ ks.length + 1 < scanBound ∧ ∀ a, H a = none → Q (.ref a) (upd H a (SetQO w a (ks.foldl addK [])))
def rSortQS (w : World) : List V → Hp → VK → Prop := fun vs H Q => ∃ (a : Addr) (L : List Key) (xs : List Str), vs = [V.ref a] ∧ H a = some (SetQO w a L) ∧ L.Nodup ∧ (∀ k, k ∈ L ↔ k ∈ xs.map Sum.inr) ∧ L.length < 64 ∧ ∀ p, H p = none → Q (.ref p) (upd H p (.lst ((sortU xs).map V.str)))
def rSortQI (w : World) : List V → Hp → VK → Prop := fun vs H Q => ∃ (a : Addr) (L : List Key) (xs : List Int), vs = [V.ref a] ∧ H a = some (SetQO w a L) ∧ L.Nodup ∧ (∀ k, k ∈ L ↔ k ∈ xs.map Sum.inl) ∧ L.length < 64 ∧ ∀ p, H p = none → Q (.ref p) (upd H p (.lst ((sortI xs).map V.int)))
theorem all_inr : ∀ {L : List Key} {xs : List Str}, (∀ k ∈ L, k ∈ xs.map Sum.inr) → ∃ ys : List Str, L = ys.map Sum.inr ∧ ∀ y ∈ ys, y ∈ xs
  | [], _, _ => ⟨[], rfl, fun _ h => by cases h⟩
  | k :: L, xs, h => by
    obtain ⟨ys, e, hs⟩ := all_inr (L := L) (xs := xs) fun q hq => h q (List.mem_cons_of_mem _ hq)
    obtain ⟨y, hy, rfl⟩ := List.mem_map.mp (h k (List.mem_cons_self ..))
    exact ⟨y :: ys, by rw [e] <;> rfl, fun z hz => by
      rcases List.mem_cons.mp hz with rfl | hz
      · exact hy
      · exact hs z hz⟩
theorem all_inl : ∀ {L : List Key} {xs : List Int}, (∀ k ∈ L, k ∈ xs.map Sum.inl) → ∃ ys : List Int, L = ys.map Sum.inl ∧ ∀ y ∈ ys, y ∈ xs
  | [], _, _ => ⟨[], rfl, fun _ h => by cases h⟩
  | k :: L, xs, h => by
    obtain ⟨ys, e, hs⟩ := all_inl (L := L) (xs := xs) fun q hq => h q (List.mem_cons_of_mem _ hq)
    obtain ⟨y, hy, rfl⟩ := List.mem_map.mp (h k (List.mem_cons_self ..))
    exact ⟨y :: ys, by rw [e] <;> rfl, fun z hz => by
      rcases List.mem_cons.mp hz with rfl | hz
      · exact hy
      · exact hs z hz⟩
theorem nodup_map' {α β : Type} (f : α → β) : ∀ {l : List α}, (l.map f).Nodup → l.Nodup
  | [], _ => List.nodup_nil
  | x :: l, h => by
    rw [List.map_cons, List.nodup_cons] at h
    exact List.nodup_cons.mpr ⟨fun z => h.1 (List.mem_map.mpr ⟨x, z, rfl⟩), nodup_map' f h.2⟩
theorem strs_perm {us vs : List Value} {xs : List Str} (p : vs.Perm us) (h : StrsAre us xs) : ∃ ys, StrsAre vs ys ∧ ys.Perm xs := by
  induction p generalizing xs with
  | nil =>
    cases h
    exact ⟨[], .nil, List.Perm.nil⟩
  | cons x _ ih =>
    cases h with
    | cons y t h =>
      obtain ⟨ys, h1, h2⟩ := ih h
      exact ⟨y :: ys, .cons y t h1, h2.cons y⟩
  | swap x y l =>
    cases h with
    | cons a t h =>
      cases h with
      | cons b u h => exact ⟨_, .cons b u (.cons a t h), List.Perm.swap _ _ _⟩
  | trans p1 p2 ih1 ih2 =>
    obtain ⟨ys, h1, h2⟩ := ih2 h
    obtain ⟨zs, h3, h4⟩ := ih1 h1
    exact ⟨zs, h3, h4.trans h2⟩
theorem ints_perm {us vs : List Value} {xs : List Int} (p : vs.Perm us) (h : IntsAre us xs) : ∃ ys, IntsAre vs ys ∧ ys.Perm xs := by
  induction p generalizing xs with
  | nil =>
    cases h
    exact ⟨[], .nil, List.Perm.nil⟩
  | cons x _ ih =>
    cases h with
    | cons y t h =>
      obtain ⟨ys, h1, h2⟩ := ih h
      exact ⟨y :: ys, .cons y t h1, h2.cons y⟩
  | swap x y l =>
    cases h with
    | cons a t h =>
      cases h with
      | cons b u h => exact ⟨_, .cons b u (.cons a t h), List.Perm.swap _ _ _⟩
  | trans p1 p2 ih1 ih2 =>
    obtain ⟨ys, h1, h2⟩ := ih2 h
    obtain ⟨zs, h3, h4⟩ := ih1 h1
    exact ⟨zs, h3, h4.trans h2⟩
theorem strs_vals {K : Frag} {H : Hp} : ∀ {vs : List V} {xs : List Str}, DtAll K H vs (xs.map PyData.str) → vs = xs.map V.str
  | _, [], h => by cases h; rfl
  | _, x :: xs, h => by
    cases h with
    | cons h1 h2 =>
      rw [dp_str h1, strs_vals h2]
      rfl
theorem ints_vals {K : Frag} {H : Hp} : ∀ {vs : List V} {xs : List Int}, DtAll K H vs (xs.map PyData.int) → vs = xs.map V.int
  | _, [], h => by cases h; rfl
  | _, x :: xs, h => by
    cases h with
    | cons h1 h2 =>
      rw [dp_int h1, ints_vals h2]
      rfl
section
variable {X : Cx}
theorem crSet (hc : X.calm = true) : CallR X (.type "set") (rSetQ X.K X.w) := by
  intro pins s σ H xs us Q I r h
  obtain ⟨l, ks, rfl, hl, few, q⟩ := h
  rw [Vals.ref1 r]
  obtain ⟨its, rv, pl, hz⟩ := I.list hl
  have hn : H s.heap.objs.size = none := I.hok.fresh (Nat.le_refl _)
  refine setQ_of (P := X.prog) (w := X.w) ks (I.ok.hd hc) pl.isList (by simpa using rv) few fun h' tk R k => ?_
  exact ⟨.ref s.heap.objs.size, upd H s.heap.objs.size (SetQO X.w s.heap.objs.size _), I.laid (t' := tk) k (Nat.le_refl _) (setQO_new R), rfl, q _ hn⟩
theorem crSortS (hc : X.calm = true) : CallR X (.builtin "sorted") (rSortQS X.w) := by
  intro pins s σ H vs us Q I r h
  obtain ⟨a, L, xs, rfl, ha, nd, hm, h64, q⟩ := h
  rw [Vals.ref1 r]
  obtain ⟨o, es, ep, t, ob, oe, od, gq, pm0, nd0, few, fit, ri, le⟩ := (show SetQ X.w s.heap a L from (I.hok a _ ha).1)
  obtain ⟨zs, ez, hz⟩ := all_inr (L := es.toList.map kOf) (xs := xs) fun k hk => (hm k).mp (pm0.mem_iff.mp hk)
  refine Calls.call_function_entry kind_sorted plain_sorted entry_sorted (args_sorted1 _) ?_
  unfold Builtin.«sorted»
  refine wpAny_bind (m := checkCount "sorted" 1 1 _) (wpAny_pure ?after)
  case after =>
  refine wpAny_bind (collect_set (A := X.A.in1) (I.ok.hd hc) ⟨o, ob, oe.1, od⟩ fit few ri le fun s1 vs k1 sz g1 o1 pm => ?_)
  have hS0 : StrsAre (es.toList.map (·.2)) zs := strs_of_keys _ _ gq ez
  have lenE : es.toList.length < 64 := by
    have z := pm0.length_eq
    rw [List.length_map] at z
    omega
  have lenV : vs.length < 64 := by rw [pm.length_eq, List.length_map]; exact lenE
  obtain ⟨zs2, hS, pz⟩ : ∃ zs2, StrsAre vs zs2 ∧ zs2.Perm zs := strs_perm pm hS0
  refine wpAny_bind (wpAny_newList ?_ (by rw [sizeLine_eq]; omega))
  have obL : (s1.heap.push (seqObj "list" vs.toArray 0)).get? s1.heap.objs.size = some (seqObj "list" vs.toArray 0) := Heap.get?_push_size _ rfl
  refine wpAny_bind (wpAny_holding (wpAny_call_entry slot_list_sort ⟨_, obL, rfl⟩ entry_list_sort (list_sort_treeK strKind_oneLt obL hS.keysOf (fun v₁ v₂ rest e => keyKind_strs (by rw [← e]; exact hS)) lenV fun st' hp hs => ⟨_, rfl, ?_⟩) (args_list_sort _)))
  obtain ⟨ys, y1, y2, y3⟩ := sorted_out_str hS hp hs
  obtain ⟨c, hc2⟩ := sortedHeap_at (vs := vs) (out := (arrOf st').map (·.2)) obL
  have ndz : zs.Nodup := by
    have z : (es.toList.map kOf).Nodup := pm0.nodup_iff.mpr nd
    rw [ez] at z
    exact nodup_map' _ z
  have ey : ys = sortU xs := by
    refine sortU_eq ((y2.trans pz).nodup_iff.mpr ndz) (fun x => ?_) y3
    rw [(y2.trans pz).mem_iff]
    refine ⟨hz x, fun hx => ?_⟩
    have z : (Sum.inr x : Key) ∈ es.toList.map kOf := pm0.mem_iff.mpr ((hm _).mpr (List.mem_map.mpr ⟨x, hx, rfl⟩))
    rw [ez] at z
    obtain ⟨x', hx', e⟩ := List.mem_map.mp z
    cases e
    exact hx'
  have ll : (ys.map V.str).length ≤ sizeLine := by
    rw [List.length_map, (y2.trans pz).length_eq, ← List.length_map (f := (Sum.inr : Str → Key)), ← ez, List.length_map, sizeLine_eq]
    omega
  have hn : H s1.heap.objs.size = none := I.hok.fresh sz
  have kp : ∀ b u, s.heap.get? b = some u → (sortedHeap (s1.heap.push (seqObj "list" vs.toArray 0)) s1.heap.objs.size vs ((arrOf st').map (·.2))).get? b = some u := fun b u e => by
    have q := k1 b u e
    have lt := Heap.lt_size q
    rw [sortedHeap_old (Nat.ne_of_lt lt) (by rw [size_push']; exact Nat.lt_succ_of_lt lt)]
    exact Heap.get?_push_of_some _ q
  have ob2 : ObjOk X.prog X.w (upd H s1.heap.objs.size (.lst (ys.map V.str))) (sortedHeap (s1.heap.push (seqObj "list" vs.toArray 0)) s1.heap.objs.size vs ((arrOf st').map (·.2))) s1.heap.objs.size (.lst (ys.map V.str)) :=
    ⟨ll, ((arrOf st').map (·.2)).toList, c, vals_of_strs y1, by rw [Array.toArray_toList]; exact hc2⟩
  obtain ⟨h1, gg, dd, tt, oo⟩ := s1
  have eo : oo = s.os := o1
  have eg : gg = s.gens := g1
  subst eo
  subst eg
  have J : Inv X pins σ (upd H h1.objs.size (.lst (ys.map V.str))) { s with heap := sortedHeap (h1.push (seqObj "list" vs.toArray 0)) h1.objs.size vs ((arrOf st').map (·.2)), gens := s.gens, drawn := dd, toks := tt } :=
    I.call (ch := []) (Un.laid kp sz hn) (I.hok.laid kp sz ob2) I.bare (fun _ z => nomatch z)
  refine wpAny_pure ⟨_, rfl, ?_⟩
  rw [ey] at J
  exact ⟨.ref h1.objs.size, _, J, rfl, q _ hn⟩
theorem crSortI (hc : X.calm = true) : CallR X (.builtin "sorted") (rSortQI X.w) := by
  intro pins s σ H vs us Q I r h
  obtain ⟨a, L, xs, rfl, ha, nd, hm, h64, q⟩ := h
  rw [Vals.ref1 r]
  obtain ⟨o, es, ep, t, ob, oe, od, gq, pm0, nd0, few, fit, ri, le⟩ := (show SetQ X.w s.heap a L from (I.hok a _ ha).1)
  obtain ⟨zs, ez, hz⟩ := all_inl (L := es.toList.map kOf) (xs := xs) fun k hk => (hm k).mp (pm0.mem_iff.mp hk)
  refine Calls.call_function_entry kind_sorted plain_sorted entry_sorted (args_sorted1 _) ?_
  unfold Builtin.«sorted»
  refine wpAny_bind (m := checkCount "sorted" 1 1 _) (wpAny_pure ?after)
  case after =>
  refine wpAny_bind (collect_set (A := X.A.in1) (I.ok.hd hc) ⟨o, ob, oe.1, od⟩ fit few ri le fun s1 vs k1 sz g1 o1 pm => ?_)
  have hS0 : IntsAre (es.toList.map (·.2)) zs := ints_of_keys _ _ gq ez
  have lenE : es.toList.length < 64 := by
    have z := pm0.length_eq
    rw [List.length_map] at z
    omega
  have lenV : vs.length < 64 := by rw [pm.length_eq, List.length_map]; exact lenE
  obtain ⟨zs2, hS, pz⟩ : ∃ zs2, IntsAre vs zs2 ∧ zs2.Perm zs := ints_perm pm hS0
  refine wpAny_bind (wpAny_newList ?_ (by rw [sizeLine_eq]; omega))
  have obL : (s1.heap.push (seqObj "list" vs.toArray 0)).get? s1.heap.objs.size = some (seqObj "list" vs.toArray 0) := Heap.get?_push_size _ rfl
  refine wpAny_bind (wpAny_holding (wpAny_call_entry slot_list_sort ⟨_, obL, rfl⟩ entry_list_sort (list_sort_tree obL hS lenV fun out ys y1 y2 y3 => ⟨_, rfl, ?_⟩) (args_list_sort _)))
  obtain ⟨c, hc2⟩ := sortedHeap_at (vs := vs) (out := out) obL
  have ndz : zs.Nodup := by
    have z : (es.toList.map kOf).Nodup := pm0.nodup_iff.mpr nd
    rw [ez] at z
    exact nodup_map' _ z
  have ey : ys = sortI xs := by
    refine sortI_eq ((y2.trans pz).nodup_iff.mpr ndz) (fun x => ?_) y3
    rw [(y2.trans pz).mem_iff]
    refine ⟨hz x, fun hx => ?_⟩
    have z : (Sum.inl x : Key) ∈ es.toList.map kOf := pm0.mem_iff.mpr ((hm _).mpr (List.mem_map.mpr ⟨x, hx, rfl⟩))
    rw [ez] at z
    obtain ⟨x', hx', e⟩ := List.mem_map.mp z
    cases e
    exact hx'
  have ll : (ys.map V.int).length ≤ sizeLine := by
    rw [List.length_map, (y2.trans pz).length_eq, ← List.length_map (f := (Sum.inl : Int → Key)), ← ez, List.length_map, sizeLine_eq]
    omega
  have hn : H s1.heap.objs.size = none := I.hok.fresh sz
  have kp : ∀ b u, s.heap.get? b = some u → (sortedHeap (s1.heap.push (seqObj "list" vs.toArray 0)) s1.heap.objs.size vs out).get? b = some u := fun b u e => by
    have q := k1 b u e
    have lt := Heap.lt_size q
    rw [sortedHeap_old (Nat.ne_of_lt lt) (by rw [size_push']; exact Nat.lt_succ_of_lt lt)]
    exact Heap.get?_push_of_some _ q
  have ob2 : ObjOk X.prog X.w (upd H s1.heap.objs.size (.lst (ys.map V.int))) (sortedHeap (s1.heap.push (seqObj "list" vs.toArray 0)) s1.heap.objs.size vs out) s1.heap.objs.size (.lst (ys.map V.int)) :=
    ⟨ll, out.toList, c, vals_of_ints y1, by rw [Array.toArray_toList]; exact hc2⟩
  obtain ⟨h1, gg, dd, tt, oo⟩ := s1
  have eo : oo = s.os := o1
  have eg : gg = s.gens := g1
  subst eo
  subst eg
  have J : Inv X pins σ (upd H h1.objs.size (.lst (ys.map V.int))) { s with heap := sortedHeap (h1.push (seqObj "list" vs.toArray 0)) h1.objs.size vs out, gens := s.gens, drawn := dd, toks := tt } :=
    I.call (ch := []) (Un.laid kp sz hn) (I.hok.laid kp sz ob2) I.bare (fun _ z => nomatch z)
  refine wpAny_pure ⟨_, rfl, ?_⟩
  rw [ey] at J
  exact ⟨.ref h1.objs.size, _, J, rfl, q _ hn⟩
end
end LC
namespace LC
open PySem PySem.Spec PyProof.Rows L2 Evl
section
variable {X : Cx} {K : Frag} {w : World}
theorem kSet (h : X.K = K) (hw : X.w = w) (hc : X.calm = true) : CallR X (.type "set") (rSetQ K w) := by
  subst h hw
  exact crSet hc
def rSortU (w : World) : List V → Hp → VK → Prop := fun vs H Q => rSortQS w vs H Q ∨ rSortQI w vs H Q
theorem kSort (hw : X.w = w) (hc : X.calm = true) : CallR X (.builtin "sorted") (rSortU w) := by
  subst hw
  exact CallR.or (crSortS hc) (crSortI hc)
end
section
variable {K : Frag} {w : World} {σ : L2.St} {H : Hp} {te : TE}
theorem foldK_nodup : ∀ (ks L : List Key), L.Nodup → (ks.foldl addK L).Nodup
  | [], L, h => h
  | k :: ks, L, h => by
    refine foldK_nodup ks (addK L k) ?_
    unfold addK
    split
    · exact h
    · rename_i n
      exact List.nodup_cons.mpr ⟨n, h⟩
/-- sorted(set(xs)), xs a list of texts; of ints -/
theorem evd_sortS {xs : List Str} (h : EvD K te σ H (.list (xs.map PyData.str))) (hl : xs.length < 60) : EvD K (tCB (rSortU w) (tCons (tCB (rSetQ K w) (tCons te tNil)) tNil)) σ H (.list ((sortU xs).map PyData.str)) := fun H1 e Q q =>
  h H1 e _ fun v H2 A g hd => by
    obtain ⟨a, vs, rfl, hs, hall⟩ := dp_lst hd
    have ev : vs = (xs.map (Sum.inr : Str → Key)).map kV := by
      rw [List.map_map]
      exact strs_vals hall
    refine ⟨a, xs.map Sum.inr, rfl, sq_of (by rw [← ev]; exact g.d2 _ _ hs), by rw [List.length_map]; unfold scanBound; omega, fun b hb => ?_⟩
    have ll := foldl_addK_len (xs.map (Sum.inr : Str → Key)) []
    rw [List.length_map, List.length_nil] at ll
    refine .inl ⟨b, _, xs, rfl, upd_same, foldK_nodup _ [] List.nodup_nil, fun k => by rw [mem_foldK]; simp, by omega, fun p hp => ?_⟩
    have hp2 : H2 p = none := fresh_back (Ex.new hb) hp
    have npb : p ≠ b := fun z => by rw [z, upd_same] at hp; cases hp
    have g2 : Gr H H1 (upd (upd H2 b (SetQO w b ((xs.map (Sum.inr : Str → Key)).foldl addK []))) p (.lst ((sortU xs).map V.str))) (upd A p (.lst ((sortU xs).map V.str))) := (g.more (Ex.new hb)).new _ hp
    exact q _ _ _ g2 (.lst upd_same (dt_strs _))
theorem evd_sortI {xs : List Int} (h : EvD K te σ H (.list (xs.map PyData.int))) (hl : xs.length < 60) : EvD K (tCB (rSortU w) (tCons (tCB (rSetQ K w) (tCons te tNil)) tNil)) σ H (.list ((sortI xs).map PyData.int)) := fun H1 e Q q =>
  h H1 e _ fun v H2 A g hd => by
    obtain ⟨a, vs, rfl, hs, hall⟩ := dp_lst hd
    have ev : vs = (xs.map (Sum.inl : Int → Key)).map kV := by
      rw [List.map_map]
      exact ints_vals hall
    refine ⟨a, xs.map Sum.inl, rfl, sq_of (by rw [← ev]; exact g.d2 _ _ hs), by rw [List.length_map]; unfold scanBound; omega, fun b hb => ?_⟩
    have ll := foldl_addK_len (xs.map (Sum.inl : Int → Key)) []
    rw [List.length_map, List.length_nil] at ll
    refine .inr ⟨b, _, xs, rfl, upd_same, foldK_nodup _ [] List.nodup_nil, fun k => by rw [mem_foldK]; simp, by omega, fun p hp => ?_⟩
    have g2 : Gr H H1 (upd (upd H2 b (SetQO w b ((xs.map (Sum.inl : Int → Key)).foldl addK []))) p (.lst ((sortI xs).map V.int))) (upd A p (.lst ((sortI xs).map V.int))) := (g.more (Ex.new hb)).new _ hp
    exact q _ _ _ g2 (.lst upd_same (dt_ints _))
end
end LC

namespace LC
open PySem PySem.Spec PyProof.Rows L2 Evl
/-! ### defs that raise -/
def veB : List Value := [.type "ValueError", .type "Exception", .type "BaseException", .type "object"]
structure ExcF (K : Frag) (mg : Str → Option Value) (x : Str) (c : Addr) : Prop where
  q : PySem.W.excIn K c veB "ValueError.__new__" = true
  g : mg x = some (.ref c)
  k : PySem.W.keepIn K (.ref c) = true
  b : PySem.W.subIn K (.ref c) (.type "BaseException") = some true
  t : PySem.W.typeIn K (.ref c) = some (.type "type")
section
variable {P : Program} {w : World} {K : Frag} {mg : Str → Option Value} {base : Heap} {x q : Str} {st : Stmt} {f : Addr} {fd : FuncData} {N ps : List Str} {k : Nat} {sp : Sp}
theorem has_x (F : FnP K x q st f fd) (g : mg x = some (.ref f)) (b : Binds K fd ps []) (S : FnScope N ps (defScope st)) (len : ∀ vs H Q E, sp vs H Q E → vs.length = ps.length)
    (hbody : ∀ (cdv : Value) (A : Around) (outer : List Env) (s : Shared) (H : Hp) (vs : List V) (Q : VK) (E : XK), Room k (A.deeper (envOfC q (defScope st) s.heap.objs.size f cdv)) → sp vs H Q E →
      ∃ t, PSs (cxOf (L2.CX P w) P w K mg base N q (defScope st) f cdv A outer s H E) (defBody st) t ∧ t { nx := fun _ H' => Q .non H', rt := Q } (start N vs) H) : Has P w K mg base (L2.CX P w) (k + 1) x ps sp :=
  ⟨f, fd, F.ok S len hbody, b, F.kp, g⟩
theorem has_p (F : FnP K x q st f fd) (g : mg x = some (.ref f)) (b : Binds K fd ps []) (S : FnScope N ps (defScope st)) (len : ∀ vs H Q E, sp vs H Q E → vs.length = ps.length)
    (hbody : ∀ (cdv : Value) (A : Around) (outer : List Env) (s : Shared) (H : Hp) (vs : List V) (Q : VK) (E : XK), Room k (A.deeper (envOfC q (defScope st) s.heap.objs.size f cdv)) → sp vs H Q E →
      ∃ t, PSs (cxOf CX0 P w K mg base N q (defScope st) f cdv A outer s H E).nox (defBody st) t ∧ t { nx := fun _ H' => Q .non H', rt := Q } (start N vs) H) : Has P w K mg base CX0 (k + 1) x ps sp :=
  ⟨f, fd, F.ok S len (fun cdv A outer s H vs Q E hr h => by
    obtain ⟨t, ht, r⟩ := hbody cdv A outer s H vs Q E hr h
    exact ⟨t, PSs.nox ht, r⟩), b, F.kp, g⟩
end
/-- a promise over data that may be refused with the class at cB -/
def spDX (K : Frag) (cB : Addr) (F : List PyData → Option PyData → Prop) : Sp := fun vs H Q E => ∃ ds o H0, Ex H0 H ∧ DtAll K H0 vs ds ∧ F ds o ∧ (∀ d, o = some d → Rt K H0 H d Q) ∧ (o = none → ∀ H2, Ex H H2 → E (.ref cB) none H2)
def F_look (ds : List PyData) (o : Option PyData) : Prop := ∃ d, ds = [d] ∧ okD d = true ∧ o = if isSource d then some .none else none
/-! ### what is a source is one by its tree -/
theorem isSum_dec : ∀ (n : Nat) (d : PyData), isSum n d = true → ∃ s : Sm, d = s.enc ∧ s.good = true ∧ s.depth ≤ n := by
  intro n
  induction n with
  | zero =>
    intro d h
    cases d with
    | str s => exact ⟨.nm s, rfl, by unfold isSum at h; exact h, Nat.zero_le _⟩
    | int i => exact ⟨.num i, rfl, by unfold isSum isWithin at h; exact h, Nat.zero_le _⟩
    | tuple ds => simp [isSum] at h
    | _ => simp [isSum, isWithin] at h
  | succ n ih =>
    intro d h
    cases d with
    | str s => exact ⟨.nm s, rfl, by unfold isSum at h; exact h, Nat.zero_le _⟩
    | int i => exact ⟨.num i, rfl, by unfold isSum isWithin at h; exact h, Nat.zero_le _⟩
    | tuple ds =>
      match ds with
      | .str w :: r =>
        have h : (sumHead w (r.length + 1) && r.all (isSum n)) = true := h
        rw [Bool.and_eq_true] at h
        obtain ⟨h1, h2⟩ := h
        unfold sumHead at h1
        rw [Bool.or_eq_true, Bool.and_eq_true, Bool.and_eq_true] at h1
        rcases h1 with ⟨hw, hl⟩ | ⟨hw, hl⟩
        · match r with
          | [a, b] =>
            simp only [List.all_cons, List.all_nil, Bool.and_true, Bool.and_eq_true] at h2
            obtain ⟨sa, rfl, ga, da⟩ := ih a h2.1
            obtain ⟨sb, rfl, gb, db⟩ := ih b h2.2
            refine ⟨.op w sa sb, rfl, ?_, ?_⟩
            · show (decide (w ∈ wordsS) && (sa.good && sb.good)) = true
              rw [hw, ga, gb] <;> rfl
            · show max sa.depth sb.depth + 1 ≤ n + 1
              omega
          | [] => simp at hl
          | [_] => simp at hl
          | _ :: _ :: _ :: _ => simp at hl <;> omega
        · have ew : w = "if" := of_decide_eq_true hw
          subst ew
          match r with
          | [a, b, c] =>
            simp only [List.all_cons, List.all_nil, Bool.and_true, Bool.and_eq_true] at h2
            obtain ⟨sa, rfl, ga, da⟩ := ih a h2.1
            obtain ⟨sb, rfl, gb, db⟩ := ih b h2.2.1
            obtain ⟨sc, rfl, gc, dc⟩ := ih c h2.2.2
            refine ⟨.ite sa sb sc, rfl, ?_, ?_⟩
            · show (sa.good && (sb.good && sc.good)) = true
              rw [ga, gb, gc] <;> rfl
            · show max sa.depth (max sb.depth sc.depth) + 1 ≤ n + 1
              omega
          | [] => simp at hl
          | [_] => simp at hl
          | [_, _] => simp at hl
          | _ :: _ :: _ :: _ :: _ => simp at hl <;> omega
      | [] => simp [isSum] at h
      | .none :: _ => simp [isSum] at h
      | .bool _ :: _ => simp [isSum] at h
      | .int _ :: _ => simp [isSum] at h
      | .list _ :: _ => simp [isSum] at h
      | .tuple _ :: _ => simp [isSum] at h
      | .dict _ :: _ => simp [isSum] at h
    | _ => simp [isSum, isWithin] at h
theorem isRow_dec (d : PyData) (h : isRow d = true) : ∃ r : Rw, d = r.enc ∧ r.good = true := by
  unfold isRow at h
  split at h
  · rename_i w a
    rw [Bool.and_eq_true] at h
    have ew : w = "show" := of_decide_eq_true h.1
    subst ew
    obtain ⟨s, rfl, g, dp⟩ := isSum_dec 6 a h.2
    refine ⟨.shw s, rfl, ?_⟩
    show (s.good && decide (s.depth ≤ 6)) = true
    rw [g, decide_eq_true dp] <;> rfl
  · rename_i w y a
    rw [Bool.and_eq_true, Bool.and_eq_true] at h
    have ew : w = "set" := of_decide_eq_true h.1
    subst ew
    obtain ⟨s, rfl, g, dp⟩ := isSum_dec 6 a h.2.2
    cases y with
    | str x =>
      refine ⟨.set x s, rfl, ?_⟩
      show (nameS x && (s.good && decide (s.depth ≤ 6))) = true
      have hx : nameS x = true := h.2.1
      rw [hx, g, decide_eq_true dp] <;> rfl
    | _ => have z := h.2.1; simp [isName] at z
  · cases h
theorem isSource_dec (d : PyData) (h : isSource d = true) : ∃ src : Src, d = encS src ∧ goodS src = true := by
  cases d with
  | tuple rs =>
    have h : (decide (rs.length ≤ 8) && rs.all isRow) = true := h
    rw [Bool.and_eq_true, List.all_eq_true] at h
    have key : ∀ l : List PyData, (∀ d ∈ l, isRow d = true) → ∃ src : Src, l = src.map Rw.enc ∧ ∀ r ∈ src, r.good = true := by
      intro l
      induction l with
      | nil => intro _; exact ⟨[], rfl, fun _ z => by cases z⟩
      | cons d l ih =>
        intro hl
        obtain ⟨src, rfl, hs⟩ := ih fun q hq => hl q (List.mem_cons_of_mem _ hq)
        obtain ⟨r, rfl, hr⟩ := isRow_dec d (hl d (List.mem_cons_self ..))
        exact ⟨r :: src, rfl, fun q hq => by
          rcases List.mem_cons.mp hq with rfl | hq
          · exact hr
          · exact hs q hq⟩
    obtain ⟨src, rfl, hs⟩ := key rs h.2
    refine ⟨src, rfl, ?_⟩
    unfold goodS
    rw [Bool.and_eq_true, List.all_eq_true]
    have h1 := of_decide_eq_true h.1
    rw [List.length_map] at h1
    exact ⟨decide_eq_true h1, hs⟩
  | _ => simp [isSource] at h
def F_sets (ds : List PyData) (o : Option PyData) : Prop := ∃ d, ds = [d] ∧ okD d = true ∧ ((∃ src, d = encS src ∧ goodS src = true ∧ o = some (.list ((sortU (setsOf src)).map PyData.str))) ∨ (isSource d = false ∧ o = none))
def F_reads (ds : List PyData) (o : Option PyData) : Prop := ∃ d, ds = [d] ∧ okD d = true ∧ ((∃ src, d = encS src ∧ goodS src = true ∧ o = some (.list ((readsOf src).map PyData.str))) ∨ (isSource d = false ∧ o = none))
theorem setsOf_len (src : Src) : (setsOf src).length ≤ src.length := by
  induction src with
  | nil => exact Nat.le_refl _
  | cons r src ih =>
    show (r.sets ++ setsOf src).length ≤ src.length + 1
    rw [List.length_append]
    have : r.sets.length ≤ 1 := by cases r <;> simp [Rw.sets]
    omega
section
variable {K : Frag} {σ : L2.St} {H0 H : Hp} {ta : TA} {D : Ends} {cB : Addr} {E : XK} {tw : TS} {F : List PyData → Option PyData → Prop}
/-- f(..) as a statement, f may refuse -/
theorem s_callX {ds : List PyData} {o : Option PyData} (h : EvDs K ta σ H0 ds) (x : Ex H0 H) (hf : F ds o) (k1 : ∀ d, o = some d → ∀ H1, Ex H H1 → D.nx σ H1) (k2 : o = none → ∀ H1, Ex H H1 → E (.ref cB) none H1) : tDrop (tCall (spDX K cB F) [] E ta) D σ H :=
  h H x _ fun vs H2 A g hd => ⟨ds, o, A, g.d2, by rw [List.append_nil]; exact hd, hf, fun d e v H3 B g3 _ => k1 d e H3 (g.ex.trans g3.ex), fun e H3 e3 => k2 e H3 (g.ex.trans e3)⟩
end
end LC

namespace LC
open PySem PySem.Spec PyProof.Rows L2 Evl
/-! ### one step behind the other: the base moves on -/
section
variable {K : Frag} {H0 H H1 H2 Hd Hd2 A Hs H' : Hp} {d : PyData} {Q : VK} {p : Addr} {out : List PyData} {σ : L2.St} {te : TE} {ta : TA} {D : Ends} {tu : TS} {i j : Nat}
theorem Gr.seq (g1 : Gr H0 H H1 Hd) (g2 : Gr Hd H1 H2 Hd2) : Gr H0 H H2 Hd2 := ⟨g1.ex.trans g2.ex, g1.xd.trans g2.xd, g2.d2, fun a h0 h1 => g2.fr a (g1.fr a h0 h1) (ne_none g1.ex h1)⟩
theorem Gr.refl (x : Ex H0 H) : Gr H0 H H H0 := Gr.base x (Ex.refl H)
theorem Rt.seq (k : Rt K H0 H d Q) (g : Gr H0 H H1 Hd) : Rt K Hd H1 d Q := fun v H2 Hd2 g2 => k v H2 Hd2 (g.seq g2)
theorem Acc.debase (a : Acc K Hd Hs p out H2) (g : Gr A H' H1 Hd) (x : Ex Hs H') : Acc K A Hs p out H2 := by
  obtain ⟨x0, B, acc, h1, h2, h3, h4, h5, h6⟩ := a
  exact ⟨x0, B, acc, h1, g.xd.trans h2, h3, h4, fun b hb hn => h5 b (g.fr b hb (ne_none x hn)) hn, h6⟩
theorem Acc.own (a : Acc K A Hs p out H') : H' p ≠ none := by
  obtain ⟨acc, q, _⟩ := a.at
  rw [q]
  exact fun z => nomatch z
/-- for k in range(n) -/
theorem s_forN {n : Nat} (h : EvDs K ta σ H0 [.int (n : Int)]) (x : Ex H0 H) (hn : n ≤ 100000) (Pv : Nat → L2.St → Hp → Prop) (h0 : ∀ H1, Ex H H1 → Pv 0 σ H1)
    (hs : ∀ (i : Nat) σ' H', i < n → Pv i σ' H' → tu { D with nx := Pv (i + 1), ct := Pv (i + 1), bk := D.nx } (σ'.set j (some (.int (i : Int)))) H') (hd : ∀ σ' H', Pv n σ' H' → D.nx σ' H') : tFor (iRng1 ta) (gName j) tu D σ H :=
  h H x _ fun ws H1 A gr hw => by
    obtain ⟨v, rfl, hv⟩ := dts1 hw
    rw [dp_int hv]
    refine ⟨n, rfl, by omega, by omega, for_range (lo := 0) (n := (n : Int).toNat) Pv (h0 H1 gr.ex) (fun i σ' H' hi q => ?_) fun σ' H' q => hd σ' H' (by rw [Int.toNat_natCast] at q; exact q)⟩
    have e0 : (0 : Int) + (i : Int) = (i : Int) := Int.zero_add _
    show tu { D with nx := Pv (i + 1), ct := Pv (i + 1), bk := D.nx } (σ'.set j (some (.int ((0 : Int) + (i : Int))))) H'
    rw [e0]
    exact hs i σ' H' (by omega) q
end
/-! ### the law's own numbers -/
def cellAt (ns : List Int) (k : Int) : Int := ns.getD k.toNat 0
def seedF (s k : Int) : Int := ((s * 1103515245 + 7919 * k + 12345) % 2147483647) ^ 5 % 2147483647
def spLcell (K : Frag) : Sp := fun vs H Q _ => ∃ (a : Addr) (ns : List Int) (k : Int), vs = [.ref a, .int k] ∧ SqL K H a (ns.map V.int) ∧ 0 ≤ k ∧ ns.length ≤ 63 ∧ ∀ H2, Ex H H2 → Q (.int (cellAt ns k)) H2
def F_seed (ds : List PyData) (d : PyData) : Prop := ∃ s k, ds = [.int s, .int k] ∧ d = .int (seedF s k)
def F_pick (ds : List PyData) (d : PyData) : Prop := ∃ s m : Int, ds = [.int s, .int m] ∧ 0 < m ∧ d = .int (s / 97 % m)
def leafs (s : Int) : List Sm := [.num (s / 7 % 10), .num (s / 7 % 4), .num (s / 7 % 10000), .num 0, .nm "a", .nm "b", .nm "c", .nm "wxyz", .nm "a", .nm "b"]
def lawLeaf (s : Int) : Sm := (leafs s).getD (s / 5 % 10).toNat (.num 0)
def lawWords : List Str := ["add", "less", "times", "over", "same", "if", "add"]
def lawWord (s : Int) : Str := lawWords.getD (s / 11 % 7).toNat "add"
def lawSum : Nat → Int → Sm
  | 0, s => lawLeaf s
  | n + 1, s => if s / 97 % 3 = 0 then lawLeaf s else if lawWord s = "if" then .ite (lawSum n (seedF s 0)) (lawSum n (seedF s 1)) (lawSum n (seedF s 2)) else .op (lawWord s) (lawSum n (seedF s 0)) (lawSum n (seedF s 1))
def F_lsum (n : Nat) (ds : List PyData) (d : PyData) : Prop := ∃ s : Int, ds = [.int s, .int (n : Int)] ∧ d = (lawSum n s).enc
theorem mod_lt10 (x m : Int) (h : 0 < m) : 0 ≤ x % m ∧ x % m < m := ⟨Int.emod_nonneg _ (by omega), Int.emod_lt_of_pos _ h⟩
theorem leaf_mem (s : Int) : lawLeaf s ∈ leafs s := by
  unfold lawLeaf
  have h := mod_lt10 (s / 5) 10 (by omega)
  rw [List.getD_eq_getElem?_getD, List.getElem?_eq_getElem (show (s / 5 % 10).toNat < (leafs s).length by show _ < 10; omega)]
  exact List.getElem_mem _
theorem leafs_good (s : Int) : ∀ q ∈ leafs s, q.good = true ∧ q.depth = 0 := by
  intro q hq
  have h1 := mod_lt10 (s / 7) 10 (by omega)
  have h2 := mod_lt10 (s / 7) 4 (by omega)
  have h3 := mod_lt10 (s / 7) 10000 (by omega)
  have na : nameS "a" = true := by decide +kernel
  have nb : nameS "b" = true := by decide +kernel
  have nc : nameS "c" = true := by decide +kernel
  have nw : nameS "wxyz" = true := by decide +kernel
  unfold leafs at hq
  simp only [List.mem_cons, List.not_mem_nil, or_false] at hq
  rcases hq with rfl | rfl | rfl | rfl | rfl | rfl | rfl | rfl | rfl | rfl
  · exact ⟨by show (decide _ && decide _) = true; rw [decide_eq_true h1.1, decide_eq_true (by omega)] <;> rfl, rfl⟩
  · exact ⟨by show (decide _ && decide _) = true; rw [decide_eq_true h2.1, decide_eq_true (by omega)] <;> rfl, rfl⟩
  · exact ⟨by show (decide _ && decide _) = true; rw [decide_eq_true h3.1, decide_eq_true (by omega)] <;> rfl, rfl⟩
  · exact ⟨by decide, rfl⟩
  · exact ⟨na, rfl⟩
  · exact ⟨nb, rfl⟩
  · exact ⟨nc, rfl⟩
  · exact ⟨nw, rfl⟩
  · exact ⟨na, rfl⟩
  · exact ⟨nb, rfl⟩
theorem word_mem (s : Int) : lawWord s ∈ lawWords := by
  unfold lawWord
  have h := mod_lt10 (s / 11) 7 (by omega)
  rw [List.getD_eq_getElem?_getD, List.getElem?_eq_getElem (show (s / 11 % 7).toNat < lawWords.length by show _ < 7; omega)]
  exact List.getElem_mem _
theorem word_good (s : Int) (h : ¬ lawWord s = "if") : lawWord s ∈ wordsS := by
  have q : lawWords.all (fun w => decide (w = "if") || decide (w ∈ wordsS)) = true := by decide +kernel
  have z := List.all_eq_true.mp q _ (word_mem s)
  rw [Bool.or_eq_true] at z
  rcases z with z | z
  · exact absurd (of_decide_eq_true z) h
  · exact of_decide_eq_true z
theorem lawSum_good : ∀ (n : Nat) (s : Int), (lawSum n s).good = true ∧ (lawSum n s).depth ≤ n
  | 0, s => by
    have h := leafs_good s _ (leaf_mem s)
    exact ⟨h.1, by show (lawLeaf s).depth ≤ 0; omega⟩
  | n + 1, s => by
    unfold lawSum
    have ih := fun k => lawSum_good n (seedF s k)
    split
    · have h := leafs_good s _ (leaf_mem s)
      exact ⟨h.1, by omega⟩
    · split
      · refine ⟨?_, ?_⟩
        · show (Sm.good _ && (Sm.good _ && Sm.good _)) = true
          rw [(ih 0).1, (ih 1).1, (ih 2).1] <;> rfl
        · show max _ (max _ _) + 1 ≤ n + 1
          have h0 := (ih 0).2
          have h1 := (ih 1).2
          have h2 := (ih 2).2
          omega
      · rename_i hw
        refine ⟨?_, ?_⟩
        · show (decide _ && (Sm.good _ && Sm.good _)) = true
          rw [decide_eq_true (word_good s hw), (ih 0).1, (ih 1).1] <;> rfl
        · show max _ _ + 1 ≤ n + 1
          have h0 := (ih 0).2
          have h1 := (ih 1).2
          omega
/-! a source drawn -/
def lawMany (s : Int) : Nat := ([s / 7 % 4, 1 + s / 7 % 3, s / 7 % 9].getD (s / 11 % 3).toNat 0).toNat
def lawDeep (s : Int) : Nat := if s / 13 % 9 = 0 then 6 else (s / 7 % 3).toNat
def lawName (s : Int) : Str := (["a", "b", "c", "wxyz"] : List Str).getD (s / 11 % 4).toNat "a"
def lawRow (one : Int) : Rw := if 0 < one / 97 % 3 then .set (lawName one) (lawSum (lawDeep one) (seedF one 1)) else .shw (lawSum (lawDeep one) (seedF one 1))
def lawSource (s : Int) : Src := (List.range (lawMany s)).map fun k : Nat => lawRow (seedF s (20 + (k : Int)))
def F_lsource (ds : List PyData) (d : PyData) : Prop := ∃ s : Int, ds = [.int s] ∧ d = encS (lawSource s)
theorem lawMany_le (s : Int) : lawMany s ≤ 8 := by
  unfold lawMany
  have h1 := mod_lt10 (s / 7) 4 (by omega)
  have h2 := mod_lt10 (s / 7) 3 (by omega)
  have h3 := mod_lt10 (s / 7) 9 (by omega)
  have h := mod_lt10 (s / 11) 3 (by omega)
  have hc : (s / 11 % 3).toNat = 0 ∨ (s / 11 % 3).toNat = 1 ∨ (s / 11 % 3).toNat = 2 := by omega
  rcases hc with e | e | e <;> rw [e] <;> simp <;> omega
theorem lawDeep_le (s : Int) : lawDeep s ≤ 6 := by
  unfold lawDeep
  have h2 := mod_lt10 (s / 7) 3 (by omega)
  split <;> omega
theorem lawName_good (s : Int) : nameS (lawName s) = true := by
  unfold lawName
  have h := mod_lt10 (s / 11) 4 (by omega)
  have hc : (s / 11 % 4).toNat = 0 ∨ (s / 11 % 4).toNat = 1 ∨ (s / 11 % 4).toNat = 2 ∨ (s / 11 % 4).toNat = 3 := by omega
  rcases hc with e | e | e | e <;> rw [e] <;> decide +kernel
theorem lawRow_good (s : Int) : (lawRow s).good = true := by
  have h := lawSum_good (lawDeep s) (seedF s 1)
  have hd := lawDeep_le s
  unfold lawRow
  split
  · show (nameS _ && (Sm.good _ && decide _)) = true
    rw [lawName_good, h.1, decide_eq_true (by omega)] <;> rfl
  · show (Sm.good _ && decide _) = true
    rw [h.1, decide_eq_true (by omega)] <;> rfl
theorem lawSource_good (s : Int) : goodS (lawSource s) = true := by
  unfold goodS lawSource
  rw [List.length_map, List.length_range, decide_eq_true (lawMany_le s), Bool.true_and, List.all_map, List.all_eq_true]
  intro k _
  exact lawRow_good _
theorem getD_atI {α : Type} (l : List α) (m : Int) (x : α) (h : 0 ≤ m) (hl : m < l.length) : atI l m = some (l.getD m.toNat x) := by
  obtain ⟨k, rfl⟩ : ∃ k : Nat, m = (k : Int) := ⟨m.toNat, by omega⟩
  refine atI_nat ?_
  rw [List.getD_eq_getElem?_getD, Int.toNat_natCast, List.getElem?_eq_getElem (by omega)]
  rfl
end LC
namespace LC
open PySem PySem.Spec PyProof.Rows L2 Evl
/-- .. with the def's address told -/
def HasF (P : Program) (w : World) (K : Frag) (mg : Str → Option Value) (base : Heap) (CX : CXT) (k : Nat) (x : Str) (ps : List Str) (sp : Sp) (f : Addr) (fd : FuncData) : Prop :=
  FnOk P w K mg base CX k f fd ps sp ∧ Binds K fd ps [] ∧ PySem.W.keepIn K (.ref f) = true ∧ mg x = some (.ref f)
def FU (F : Nat → List PyData → PyData → Prop) (m : Nat) (ds : List PyData) (d : PyData) : Prop := ∃ n, n ≤ m ∧ F n ds d
section
variable {P : Program} {w : World} {K : Frag} {mg : Str → Option Value} {base : Heap} {x q : Str} {st : Stmt} {f : Addr} {fd : FuncData} {N ps : List Str} {k j : Nat} {CX : CXT} {sp : Sp}
theorem HasF.has (h : HasF P w K mg base CX k x ps sp f fd) : Has P w K mg base CX k x ps sp := ⟨f, fd, h⟩
theorem HasF.union {F : Nat → List PyData → PyData → Prop} (m : Nat) (h : ∀ n, HasF P w K mg base CX (n + j) x ps (spD K (F n)) f fd) : Has P w K mg base CX (m + j) x ps (spD K (FU F m)) := by
  refine ⟨f, fd, ⟨fun vs H Q E z => ?_, fun A outer s H args us vs Q E hr e0 hb hv z => ?_⟩, (h 0).2⟩
  · obtain ⟨ds, d, H0, e, hd, ⟨n, _, hf⟩, hq⟩ := z
    exact (h n).1.len vs H Q E ⟨ds, d, H0, e, hd, hf, hq⟩
  · obtain ⟨ds, d, H0, e, hd, ⟨n, hn, hf⟩, hq⟩ := z
    exact (h n).1.run A outer s H args us vs Q E (hr.mono (by omega)) e0 hb hv ⟨ds, d, H0, e, hd, hf, hq⟩
theorem hasF_d {FF : List PyData → PyData → Prop} (F : FnP K x q st f fd) (g : mg x = some (.ref f)) (b : Binds K fd ps []) (S : FnScope N ps (defScope st)) (hl : ∀ ds d, FF ds d → ds.length = ps.length)
    (hbody : ∀ (cdv : Value) (A : Around) (outer : List Env) (s : Shared) (H : Hp) (vs : List V) (Q : VK) (E : XK) (ds : List PyData) (d : PyData) (H0 : Hp), Room k (A.deeper (envOfC q (defScope st) s.heap.objs.size f cdv)) →
      Ex H0 H → DtAll K H0 vs ds → FF ds d → (∀ v H2 Hd, Gr H0 H H2 Hd → Dt K Hd v d → Q v H2) →
      ∃ t, PSs (cxOf CX0 P w K mg base N q (defScope st) f cdv A outer s H E).nox (defBody st) t ∧ t { nx := fun _ H' => Q .non H', rt := Q } (start N vs) H) : HasF P w K mg base CX0 (k + 1) x ps (spD K FF) f fd := by
  refine ⟨F.ok S (fun vs H Q E h => ?_) (fun cdv A outer s H vs Q E hr h => ?_), b, F.kp, g⟩
  · obtain ⟨ds, d, H0, _, hd, hf, _⟩ := h
    rw [dpAll_len hd]
    exact hl ds d hf
  · obtain ⟨ds, d, H0, e, hd, hf, hq⟩ := h
    obtain ⟨t, ht, r⟩ := hbody cdv A outer s H vs Q E ds d H0 hr e hd hf hq
    exact ⟨t, PSs.nox ht, r⟩
end
end LC

namespace LC
open PySem PySem.Spec PyProof.Rows L2 Evl
section
variable {K : Frag} {σ : L2.St} {H : Hp} {ta : TA} {te : TE} {E : XK} {d : PyData}
theorem evd_callX {cB : Addr} {F : List PyData → Option PyData → Prop} {ds : List PyData} (h : EvDs K ta σ H ds) (hf : F ds (some d)) : EvD K (tCall (spDX K cB F) [] E ta) σ H d := fun H1 e Q q =>
  h H1 e _ fun vs H2 A g hd => ⟨ds, some d, A, g.d2, by rw [List.append_nil]; exact hd, hf, fun d' e' v H3 B g3 hv => q v H3 B (g.seq g3) (by cases e'; exact hv), fun z => by cases z⟩
theorem evd_cell {a : Addr} {ns : List Int} {k : Int} {ti : TE} (ha : Ev te σ H (.ref a)) (hk : Ev ti σ H (.int k)) (hS : SqL K H a (ns.map V.int)) (h0 : 0 ≤ k) (hl : ns.length ≤ 63) : EvD K (tCall (spLcell K) [] E (tCons te (tCons ti tNil))) σ H (.int (cellAt ns k)) :=
  evd_i fun H1 e Q q => ha H1 e _ fun H2 e2 => hk H2 (e.trans e2) _ fun H3 e3 => ⟨a, ns, k, rfl, ex_l ((e.trans e2).trans e3) hS, h0, hl, fun H4 e4 => q H4 ((e2.trans e3).trans e4)⟩
end
/-! shapes and equality of plain data -/
theorem shaped_of {d : PyData} (ok : okD d = true) (hd : d.depth ≤ 64) : SeqAt.shaped d = true := by
  have key : ∀ d : PyData, okD d = true → d.canLay0 = true := by
    intro d
    refine PyData.rec (motive_1 := fun d => okD d = true → d.canLay0 = true) (motive_2 := fun ds => okD.okAll ds = true → PyData.canLayAll0 ds = true) (motive_3 := fun _ => True) (motive_4 := fun _ => True) ?_ ?_ ?_ ?_ ?_ ?_ ?_ ?_ ?_ ?_ ?_ ?_ d
    · intro _; rfl
    · intro _ _; rfl
    · intro _ _; rfl
    · intro s h
      unfold okD at h
      unfold PyData.canLay0
      exact (Bool.and_eq_true_iff.mp h).2
    · intro ds ih h
      unfold okD at h
      unfold PyData.canLay0
      exact ih h
    · intro ds ih h
      unfold okD at h
      unfold PyData.canLay0
      exact ih h
    · intro _ _ h
      simp [okD] at h
    · intro _; rfl
    · intro d ds ih1 ih2 h
      unfold okD.okAll at h
      rw [Bool.and_eq_true] at h
      unfold PyData.canLayAll0
      rw [ih1 h.1, ih2 h.2] <;> rfl
    · trivial
    · intros; trivial
    · intros; trivial
  show (d.canLay0 && decide (d.depth ≤ 64)) = true
  rw [key d ok, decide_eq_true hd] <;> rfl
theorem depthAll_le : ∀ {ds : List PyData} {n : Nat}, (∀ d ∈ ds, d.depth ≤ n) → PyData.depthAll ds ≤ n
  | [], n, _ => by unfold PyData.depthAll; omega
  | d :: ds, n, h => by
    unfold PyData.depthAll
    have h1 := h d (List.mem_cons_self ..)
    have h2 := depthAll_le (ds := ds) (n := n) fun q hq => h q (List.mem_cons_of_mem _ hq)
    omega
theorem depth_list {ds : List PyData} {n : Nat} (h : ∀ d ∈ ds, d.depth ≤ n) : (PyData.list ds).depth ≤ n + 1 := by
  have := depthAll_le h
  unfold PyData.depth
  omega
theorem depth_tuple {ds : List PyData} {n : Nat} (h : ∀ d ∈ ds, d.depth ≤ n) : (PyData.tuple ds).depth ≤ n + 1 := by
  have := depthAll_le h
  unfold PyData.depth
  omega
theorem Sm.enc_depth : ∀ s : Sm, s.enc.depth ≤ s.depth
  | .num _ => by unfold Sm.enc PyData.depth; omega
  | .nm _ => by unfold Sm.enc PyData.depth; omega
  | .op w a b => by
    have h1 := Sm.enc_depth a
    have h2 := Sm.enc_depth b
    refine depth_tuple (n := max a.depth b.depth) fun d hd => ?_
    simp only [List.mem_cons, List.not_mem_nil, or_false] at hd
    rcases hd with rfl | rfl | rfl
    · unfold PyData.depth; omega
    · omega
    · omega
  | .ite a b c => by
    have h1 := Sm.enc_depth a
    have h2 := Sm.enc_depth b
    have h3 := Sm.enc_depth c
    refine depth_tuple (n := max a.depth (max b.depth c.depth)) fun d hd => ?_
    simp only [List.mem_cons, List.not_mem_nil, or_false] at hd
    rcases hd with rfl | rfl | rfl | rfl
    · unfold PyData.depth; omega
    · omega
    · omega
    · omega
theorem Rw.enc_depth {r : Rw} (h : r.good = true) : r.enc.depth ≤ 7 := by
  have g := Rw.good_sum h
  have hs := Sm.enc_depth r.sum
  cases r with
  | set x s =>
    refine depth_tuple (n := 6) fun d hd => ?_
    simp only [List.mem_cons, List.not_mem_nil, or_false] at hd
    rcases hd with rfl | rfl | rfl
    · unfold PyData.depth; omega
    · unfold PyData.depth; omega
    · exact Nat.le_trans hs g.2
  | shw s =>
    refine depth_tuple (n := 6) fun d hd => ?_
    simp only [List.mem_cons, List.not_mem_nil, or_false] at hd
    rcases hd with rfl | rfl
    · unfold PyData.depth; omega
    · exact Nat.le_trans hs g.2
theorem src_depth {src : Src} (h : goodS src = true) : (encS src).depth ≤ 8 := depth_tuple (n := 7) fun d hd => by
  obtain ⟨r, hr, rfl⟩ := List.mem_map.mp hd
  exact Rw.enc_depth (goodS_row h hr)
theorem src_shaped {src : Src} (h : goodS src = true) : SeqAt.shaped (encS src) = true := shaped_of (ok_src src h) (Nat.le_trans (src_depth h) (by decide))
theorem shaped_strs {l : List Str} (h : ∀ x ∈ l, nameS x = true) : SeqAt.shaped (.list (l.map PyData.str)) = true := by
  refine shaped_of (ok_lst_of fun d hd => ?_) (Nat.le_trans (depth_list (n := 0) fun d hd => ?_) (by decide))
  · obtain ⟨x, hx, rfl⟩ := List.mem_map.mp hd
    exact ok_of_name (h x hx)
  · obtain ⟨x, hx, rfl⟩ := List.mem_map.mp hd
    unfold PyData.depth
    omega
theorem names_good : ∀ (s : Sm), s.good = true → ∀ x ∈ s.names, nameS x = true
  | .num _, _, x, hx => by cases hx
  | .nm y, h, x, hx => by
    have e : x = y := by simpa [Sm.names] using hx
    rw [e]
    exact h
  | .op w a b, h, x, hx => by
    have h : (decide (w ∈ wordsS) && (a.good && b.good)) = true := h
    simp only [Bool.and_eq_true] at h
    have hx : x ∈ a.names ++ b.names := hx
    rcases List.mem_append.mp hx with q | q
    · exact names_good a h.2.1 x q
    · exact names_good b h.2.2 x q
  | .ite a b c, h, x, hx => by
    have h : (a.good && (b.good && c.good)) = true := h
    simp only [Bool.and_eq_true] at h
    have hx : x ∈ a.names ++ (b.names ++ c.names) := hx
    rcases List.mem_append.mp hx with q | q
    · exact names_good a h.1 x q
    · rcases List.mem_append.mp q with q | q
      · exact names_good b h.2.1 x q
      · exact names_good c h.2.2 x q
theorem addName_mem {ms f : List Str} {x y : Str} (h : y ∈ addName ms f x) : y ∈ f ∨ y = x := by
  unfold addName at h
  split at h
  · exact .inl h
  · rcases List.mem_append.mp h with q | q
    · exact .inl q
    · exact .inr (by simpa using q)
theorem foldl_addName_mem (ms : List Str) : ∀ (l f : List Str) (y : Str), y ∈ l.foldl (addName ms) f → y ∈ f ∨ y ∈ l
  | [], f, y, h => .inl h
  | x :: l, f, y, h => by
    rcases foldl_addName_mem ms l (addName ms f x) y h with q | q
    · rcases addName_mem q with q | q
      · exact .inl q
      · exact .inr (by rw [q]; exact List.mem_cons_self ..)
    · exact .inr (List.mem_cons_of_mem _ q)
theorem reads_good (src : Src) (h : ∀ r ∈ src, r.good = true) : ∀ acc : List Str × List Str, (∀ x ∈ acc.1, nameS x = true) → ∀ x ∈ (src.foldl readsGo acc).1, nameS x = true := by
  induction src with
  | nil => intro acc ha; exact ha
  | cons r src ih =>
    intro acc ha
    refine ih (fun q hq => h q (List.mem_cons_of_mem _ hq)) (readsGo acc r) fun x hx => ?_
    rw [readsGo_eq] at hx
    rcases foldl_addName_mem acc.2 _ _ x hx with q | q
    · exact ha x q
    · exact names_good _ (Rw.good_sum (h r (List.mem_cons_self ..))).1 x q
theorem readsOf_good {src : Src} (h : goodS src = true) : ∀ x ∈ readsOf src, nameS x = true := reads_good src (fun r hr => goodS_row h hr) ([], []) fun x hx => by cases hx
theorem mine_eq (src : Src) : ∀ acc : List Str × List Str, (src.foldl readsGo acc).2 = acc.2 ++ setsOf src := by
  induction src with
  | nil => intro acc; simp [setsOf]
  | cons r src ih =>
    intro acc
    rw [List.foldl_cons, ih (readsGo acc r), readsGo_eq]
    simp [setsOf]
theorem setsOf_good {src : Src} (h : goodS src = true) : ∀ x ∈ setsOf src, nameS x = true := fun x hx => by
  obtain ⟨r, hr, hx⟩ := List.mem_flatMap.mp hx
  have g := goodS_row h hr
  cases r with
  | set y s =>
    have e : x = y := by simpa [Rw.sets] using hx
    have g : (nameS y && (s.good && decide (s.depth ≤ 6))) = true := g
    rw [Bool.and_eq_true] at g
    rw [e]
    exact g.1
  | shw s => cases hx
theorem sortU_mem {x : Str} {xs : List Str} : x ∈ sortU xs ↔ x ∈ xs := by
  unfold sortU
  rw [(List.mergeSort_perm _ _).mem_iff, mem_nub]
def spLaw (K : Frag) : Sp := fun vs H Q _ => ∃ (a : Addr) (ns : List Int), vs = [.ref a] ∧ SqL K H a (ns.map V.int) ∧ ns.length ≤ 63 ∧ ∀ H', Q (.bl true) H'
def isShowD : PyData → Bool
  | .tuple (.str w :: _) => w == "show"
  | _ => false
def Rw.isShw : Rw → Bool
  | .shw _ => true
  | .set _ _ => false
theorem isShowD_enc (r : Rw) : isShowD r.enc = r.isShw := by
  cases r with
  | set x s =>
    show (("set" : Str) == "show") = false
    decide +kernel
  | shw s => rfl
theorem shows_data (src : Src) : ((src.map Rw.enc).filter isShowD).map id = (src.filter Rw.isShw).map Rw.enc := by
  rw [List.map_id, List.filter_map]
  congr 1
  refine List.filter_congr fun r _ => ?_
  exact isShowD_enc r
theorem shows_good {src : Src} (h : goodS src = true) : goodS (src.filter Rw.isShw) = true := by
  unfold goodS at h ⊢
  simp only [Bool.and_eq_true, decide_eq_true_eq, List.all_eq_true] at h ⊢
  exact ⟨Nat.le_trans (List.length_filter_le _ _) h.1, fun r hr => h.2 r (List.mem_filter.mp hr).1⟩
theorem shows_sets (src : Src) : setsOf (src.filter Rw.isShw) = [] := by
  unfold setsOf
  rw [List.flatMap_eq_nil_iff]
  intro r hr
  have h := (List.mem_filter.mp hr).2
  cases r with
  | set x s => cases h
  | shw s => rfl
theorem ev_isShow {K : Frag} {σ : L2.St} {H : Hp} {te : TE} {r : Rw} (h : EvD K te σ H r.enc) : Ev (tOp (rEqD K) (tOp (rIx K) te (tC (.int 0))) (tC (.str "show"))) σ H (.bl (isShowD r.enc)) := by
  cases r with
  | set x s => exact ev_is (ev_eq (evd_ixT (d := .str "set") h evd_int (atI_0 _ _)) evd_str (by decide +kernel) (by decide +kernel)) rfl
  | shw s => exact ev_is (ev_eq (evd_ixT (d := .str "show") h evd_int (atI_0 _ _)) evd_str (by decide +kernel) (by decide +kernel)) rfl
end LC

namespace LC
open PySem PySem.Spec PyProof.Rows L2 Evl
section
variable {P : Program} {w : World} {K : Frag} {mg : Str → Option Value} {base : Heap} {x q : Str} {st : Stmt} {f : Addr} {fd : FuncData} {N ps : List Str} {k : Nat} {sp : Sp}
theorem hasF_p (F : FnP K x q st f fd) (g : mg x = some (.ref f)) (b : Binds K fd ps []) (S : FnScope N ps (defScope st)) (len : ∀ vs H Q E, sp vs H Q E → vs.length = ps.length)
    (hbody : ∀ (cdv : Value) (A : Around) (outer : List Env) (s : Shared) (H : Hp) (vs : List V) (Q : VK) (E : XK), Room k (A.deeper (envOfC q (defScope st) s.heap.objs.size f cdv)) → sp vs H Q E →
      ∃ t, PSs (cxOf CX0 P w K mg base N q (defScope st) f cdv A outer s H E).nox (defBody st) t ∧ t { nx := fun _ H' => Q .non H', rt := Q } (start N vs) H) : HasF P w K mg base CX0 (k + 1) x ps sp f fd :=
  ⟨F.ok S len (fun cdv A outer s H vs Q E hr h => by
    obtain ⟨t, ht, r⟩ := hbody cdv A outer s H vs Q E hr h
    exact ⟨t, PSs.nox ht, r⟩), b, F.kp, g⟩
end
theorem map_strs (K : Frag) (xs : List Str) : (xs.map He.Dv.str).map (He.Dv.v K) = xs.map V.str := by rw [List.map_map] <;> rfl
theorem tup_strs {K : Frag} {x : Str} (xs : List Str) (h : He.tupB K x (xs.map He.Dv.str) = true) (H : Hp) : Dt K H (.ref (He.ga K x)) (.tuple (xs.map PyData.str)) := by
  refine .tup (xs := xs.map V.str) ?_ (dt_strs xs)
  rw [← map_strs K]
  exact He.tupB_ok h H
end LC

namespace LC
open PySem PySem.Spec PyProof.Rows L2 Evl
/-! ### a def that may raise, called in a try -/
section
variable {X : Cx} {CX : CXT} {k j : Nat} {x : Str} {ps : List Str} {sp : Sp} {E : L2.St → XK} {p pos : Pos} {e : Expr} {es : List Expr} {t : TA}
theorem pe_hasS (F : Has X.prog X.w X.K X.mg X.base CX k x ps sp) (hr : Room j X.A) (hk : k ≤ j) (hg : Gl X x) (hx : ∀ σ, PassesAt CX X σ (E σ)) (ha : PA X (e :: es) t) (hdb : (x == ("__debug__" : Str)) = false := by decide)
    (he : starEach (e :: es) X.env = (false, eval e X.env) :: starEach es X.env := by rfl) (hpl : (backTo pos (starEach es X.env)).any (·.1) = false := by rfl) : PE X (.Call (.Name x p) (e :: es) [] pos) (tCallS sp E t) := by
  obtain ⟨f, fd, G, b, kp, m⟩ := F
  exact pe_callS G (hr.mono hk) hg m kp b hx ha hdb he hpl
end
section
variable {K : Frag} {σ : L2.St} {H H0 H1 H' : Hp} {ta tb tc te : TE} {D : Ends} {d : PyData}
theorem ev_notIs {a b : Bool} (ha : EvD K ta σ H (.bool a)) (hb : EvD K tb σ H (.bool b)) : Ev (tOp rNotB ta tb) σ H (.bl (!decide (a = b))) := ev_opd ha hb fun x y H1 hx hy Q q => ⟨a, b, dp_bool hx, dp_bool hy, q⟩
theorem ev_isB {a b : Bool} (ha : EvD K ta σ H (.bool a)) (hb : EvD K tb σ H (.bool b)) : Ev (tOp rIsB ta tb) σ H (.bl (decide (a = b))) := ev_opd ha hb fun x y H1 hx hy Q q => ⟨a, b, dp_bool hx, dp_bool hy, q⟩
abbrev rLeS : R2 := fun x y H Q => ∃ i j, x = .str i ∧ y = .str j ∧ Q (.bl (!decide (j.cps.toList < i.cps.toList))) H
theorem kLeS {X : Cx} : OpR X (compareOp .LtE) rLeS := op_le_str
theorem ev_chainS {i j k : Str} (ha : EvD K ta σ H (.str i)) (hb : EvD K tb σ H (.str j)) (hc : EvD K tc σ H (.str k)) :
    Ev (tChain rLeS rLeS ta tb tc) σ H (.bl (!decide (j.cps.toList < i.cps.toList) && !decide (k.cps.toList < j.cps.toList))) := fun H1 e Q hq =>
  ev_str ha H1 e _ fun H2 e2 => ev_str hb H2 (e.trans e2) _ fun H3 e3 => ⟨i, j, rfl, rfl, _, rfl, by
    cases hp : !decide (j.cps.toList < i.cps.toList) with
    | true =>
      show tc σ H3 _
      refine ev_str hc H3 ((e.trans e2).trans e3) _ fun H4 e4 => ⟨j, k, rfl, rfl, ?_⟩
      have := hq H4 ((e2.trans e3).trans e4)
      rw [hp] at this
      exact this
    | false =>
      show Q (.bl false) H3
      have := hq H3 (e2.trans e3)
      rw [hp] at this
      exact this⟩
theorem Rt.retB {b : Bool} (k : Rt K H0 H (.bool b) D.rt) (x : Ex H0 H) (e : Ex H H1) (h : EvD K te σ H1 d) (hd : d = .bool b) : tRet te D σ H1 := by
  subst hd
  exact h H1 (Ex.refl _) _ fun v H2 Hd g hd => k v H2 H0 (Gr.base x (e.trans g.ex)) (by rw [dp_bool hd]; exact .bl b)
end
/-! ### the law's own words of a source -/
def sizesK : List (Key × V) := [(.inr "add", .int 3), (.inr "less", .int 3), (.inr "times", .int 3), (.inr "over", .int 3), (.inr "same", .int 3), (.inr "if", .int 4)]
abbrev sizesT : List (TE × TE) := [(tC (.str "add"), tC (.int 3)), (tC (.str "less"), tC (.int 3)), (tC (.str "times"), tC (.int 3)), (tC (.str "over"), tC (.int 3)), (tC (.str "same"), tC (.int 3)), (tC (.str "if"), tC (.int 4))]
theorem sizesK_merge : mergeK [] sizesK = sizesK := by decide +kernel
theorem s_sizes {D : Ends} {σ : L2.St} {H : Hp} {i : Nat} (k : ∀ p H1, Ex H H1 → H1 p = some (.dK sizesK) → D.nx (σ.set i (some (.ref p))) H1) : tAsg (tDisp sizesT) (gName i) D σ H := by
  intro p hp
  refine ⟨upd_same, sizesK, rfl, by decide, ?_⟩
  rw [sizesK_merge]
  exact k p _ (ex_upd (ex_upd (Ex.refl H) hp) hp) upd_same
def sizeOf (w : Str) : Int := if w ∈ wordsS then 3 else if w = "if" then 4 else 0
theorem sizes_val (w : Str) : (valV sizesK (.inr w)).getD (.int 0) = .int (sizeOf w) := by
  have key : ∀ z : Str, z = w ∨ ¬ z = w := fun z => Classical.em _
  unfold sizeOf wordsS
  by_cases h1 : w = "add"
  · subst h1; decide +kernel
  by_cases h2 : w = "less"
  · subst h2; decide +kernel
  by_cases h3 : w = "times"
  · subst h3; decide +kernel
  by_cases h4 : w = "over"
  · subst h4; decide +kernel
  by_cases h5 : w = "same"
  · subst h5; decide +kernel
  by_cases h6 : w = "if"
  · subst h6; decide +kernel
  have e : valV sizesK (.inr w) = none := by
    unfold sizesK
    rw [valV_neg, valV_neg, valV_neg, valV_neg, valV_neg, valV_neg]
    · rfl
    all_goals
      intro z
      have z := Sum.inr.inj z
      simp_all
  rw [e]
  simp [h1, h2, h3, h4, h5, h6]
theorem size_head (w : Str) (n : Nat) : (((n + 1 : Nat) : Int) == sizeOf w) = sumHead w (n + 1) := by
  unfold sizeOf sumHead
  by_cases h1 : w ∈ wordsS
  · have h2 : ¬ w = "if" := fun z => noIf (z ▸ h1)
    rw [if_pos h1, decide_eq_true h1, decide_eq_false h2, Bool.eq_iff_iff]
    simp
    omega
  · rw [if_neg h1, decide_eq_false h1]
    by_cases h2 : w = "if"
    · rw [if_pos h2, decide_eq_true h2, Bool.eq_iff_iff]
      simp
      omega
    · rw [if_neg h2, decide_eq_false h2, Bool.eq_iff_iff]
      simp
      omega
section
variable {K : Frag} {σ : L2.St} {H : Hp} {ty : TE} {w : Str} {i : Nat} {p : Addr}
theorem ev_sizeGet (hs : σ[i]? = some (some (.ref p))) (hp : H p = some (.dK sizesK)) (hw : EvD K ty σ H (.str w)) : Ev (tDGet2 (tVar i) ty (tC (.int 0))) σ H (.int (sizeOf w)) := fun H1 e Q q => by
  refine ⟨.ref p, hs, p, rfl, .inl ⟨_, .inl (e _ _ hp)⟩, ?_⟩
  refine hw H1 e _ fun v H2 Hd g hd => ?_
  rw [dp_str hd]
  have h2 : H2 p = some (.dK sizesK) := g.ex _ _ (e _ _ hp)
  refine ⟨_, DGet.k (k := .inr w) h2, ?_⟩
  rw [sizes_val]
  exact q H2 g.ex
end
/-- signs of a to z -/
theorem small_le (c : Nat) : (!decide ((⟨#[c]⟩ : Str).cps.toList < ("a" : Str).cps.toList) && !decide (("z" : Str).cps.toList < (⟨#[c]⟩ : Str).cps.toList)) = decide (c ∈ smallS.cps.toList) := by
  have ea : ("a" : Str).cps.toList = [97] := by decide +kernel
  have ez : ("z" : Str).cps.toList = [122] := by decide +kernel
  have es : smallS.cps.toList = (List.range 26).map (· + 97) := by decide +kernel
  rw [ea, ez, es]
  show (!decide ([c] < [97]) && !decide ([122] < [c])) = _
  rw [Bool.eq_iff_iff]
  simp only [Bool.and_eq_true, Bool.not_eq_true', decide_eq_false_iff_not, decide_eq_true_eq, List.mem_map, List.mem_range]
  have l1 : ([c] < [97]) ↔ c < 97 := by simp [List.cons_lt_cons_iff]
  have l2 : ([122] < [c]) ↔ 122 < c := by simp [List.cons_lt_cons_iff]
  rw [l1, l2]
  constructor
  · intro h
    exact ⟨c - 97, by omega, by omega⟩
  · rintro ⟨a, ha, rfl⟩
    omega
def barred7 : List Str := ["add", "less", "over", "same", "if", "set", "show"]
theorem name7 (z : Str) (hl : z.length ≤ 4) : decide (z ∈ barred7) = decide (z ∈ barredS) := by
  have ht : ("times" : Str).length = 5 := by decide +kernel
  have hn : ¬ z = "times" := fun e => by rw [e, ht] at hl; omega
  unfold barred7 barredS
  rw [Bool.eq_iff_iff]
  simp [hn]
def F_kname (ds : List PyData) (d : PyData) : Prop := ∃ z : Str, ds = [.str z] ∧ okD (.str z) = true ∧ d = .bool (nameS z)
def F_ksum (n : Nat) (ds : List PyData) (d : PyData) : Prop := ∃ x, ds = [x, .int (6 - (n : Int))] ∧ okD x = true ∧ x.depth ≤ 60 ∧ d = .bool (isSum n x)
def headOk : PyData → Bool
  | .tuple (h :: _) => flatD h
  | _ => true
def F_ksource (ds : List PyData) (d : PyData) : Prop := ∃ rs x, ds = [x] ∧ (x = .tuple rs ∨ (rs = [] ∧ isT x "tuple" = false)) ∧ okD x = true ∧ x.depth ≤ 60 ∧ (∀ r ∈ rs, headOk r = true) ∧ d = .bool (isSource x)
def F_none (ds : List PyData) (o : Option PyData) : Prop := ∃ d, ds = [d] ∧ okD d = true ∧ isSource d = false ∧ o = none
def F_kof (ds : List PyData) (o : Option PyData) : Prop := ∃ (i : Int) (d : PyData), ds = [.int i, d] ∧ okD d = true ∧ isSource d = false ∧ o = none
def Fnever (ds : List PyData) (d : PyData) : Prop := False
theorem eqv_nil (l : List PyData) : PyData.eqv (.list l) (.list []) = l.isEmpty := by cases l <;> rfl
theorem eqv_unit (l : List PyData) : PyData.eqv (.tuple l) (.tuple []) = l.isEmpty := by cases l <;> rfl
theorem depth_mem {ds : List PyData} {d : PyData} (h : d ∈ ds) : d.depth ≤ PyData.depthAll ds := by
  induction ds with
  | nil => cases h
  | cons e ds ih =>
    unfold PyData.depthAll
    rcases List.mem_cons.mp h with rfl | h
    · exact Nat.le_max_left _ _
    · exact Nat.le_trans (ih h) (Nat.le_max_right _ _)
theorem depth_tup {ds : List PyData} {d : PyData} {n : Nat} (h : (PyData.tuple ds).depth ≤ n) (hd : d ∈ ds) : d.depth ≤ n := by
  unfold PyData.depth at h
  have := depth_mem hd
  omega
end LC
namespace LC
open PySem PySem.Spec PyProof.Rows L2 Evl
section
variable {K : Frag} {σ : L2.St} {H H0 : Hp} {ta tb te : TE} {t : TT} {targs : TA} {D : Ends} {E : XK}
theorem dpAll_rep {vs : List V} {ds : List PyData} (h : DtAll K H vs ds) : ∀ n : Nat, DtAll K H (List.replicate n vs).flatten (List.replicate n ds).flatten
  | 0 => .nil
  | n + 1 => by
    rw [List.replicate_succ, List.replicate_succ, List.flatten_cons, List.flatten_cons]
    exact dpAll_app h (dpAll_rep h n)
theorem evd_mulT {ds : List PyData} {n : Int} (ha : EvD K ta σ H (.tuple ds)) (hb : EvD K tb σ H (.int n)) (h0 : ds ≠ []) (h2 : 2 ≤ n ∧ n ≤ 1000) (hl : ds.length ≤ 1000) : EvD K (tOp (rMulU K) ta tb) σ H (.tuple (List.replicate n.toNat ds).flatten) := evd_op ha hb fun x y H1 A e hx hy Q q => by
  obtain ⟨a, xs, rfl, hs, hall⟩ := dp_tup hx
  rw [dp_int hy]
  have hlen := dpAll_len hall
  refine .inr (.inr ⟨a, n, xs, rfl, rfl, ex_t e hs, ?_, h2.1, h2.2, by omega, fun p hp => q _ _ _ ((Gr.base (Ex.refl A |>.trans e) (Ex.refl H1)).new _ hp) (.tup (st_of upd_same) (dpAll_ex (Ex.new (fresh_back e hp)) _ _ (dpAll_rep hall _)))⟩)
  intro z
  rw [z] at hlen
  exact h0 (List.eq_nil_of_length_eq_zero hlen.symm)
theorem cut_take (ds : List PyData) (n : Nat) (h : n ≤ ds.length) : cutD ds none (some (n : Int)) = ds.take n := by
  have e : HT.sIx ds.length ds.length (some (n : Int)) = n := by
    rw [HT.sIx_nat]
    omega
  unfold cutD
  rw [e, HT.sIx_none]
  simp
theorem cut_drop (ds : List PyData) (n : Nat) (h : n ≤ ds.length) : cutD ds (some (n : Int)) none = ds.drop n := by
  have e : HT.sIx ds.length 0 (some (n : Int)) = n := by
    rw [HT.sIx_nat]
    omega
  unfold cutD
  rw [e, HT.sIx_none]
  rw [List.take_of_length_le]
  rw [List.length_drop]
  omega
/-- an if that is not taken, with nothing behind else -/
theorem s_skip {tu : TS} (h : EvT t σ H0 false) (x : Ex H0 H) (k : ∀ H1, Ex H H1 → D.nx σ H1) : tIfS t tu tNext D σ H := s_ifD h x (fun z => nomatch z) fun _ => k
/-- a call that is refused -/
theorem x_call {cB : Addr} {F : List PyData → Option PyData → Prop} {ds : List PyData} {Q : VK} (h : EvDs K targs σ H0 ds) (x : Ex H0 H) (hf : F ds none) (k : ∀ H1, Ex H H1 → E (.ref cB) none H1) : tCall (spDX K cB F) [] E targs σ H Q :=
  h H x _ fun vs H2 A g hd => ⟨ds, none, A, g.d2, by rw [List.append_nil]; exact hd, hf, fun d e => (nomatch e), fun e H3 e3 => k H3 (g.ex.trans e3)⟩
theorem x_if {b : Bool} {Q : VK} (h : EvT t σ H0 b) (x : Ex H0 H) (k1 : b = true → ∀ H1, Ex H H1 → ta σ H1 Q) (k2 : b = false → ∀ H1, Ex H H1 → tb σ H1 Q) : tIf t ta tb σ H Q := h H x _ fun H2 e2 => by
  cases b with
  | true => exact k1 rfl H2 e2
  | false => exact k2 rfl H2 e2
/-- .. in a try -/
theorem s_tryX {cB : Addr} {F : List PyData → Option PyData → Prop} {ds : List PyData} {ES : L2.St → XK} (h : EvDs K targs σ H0 ds) (x : Ex H0 H) (hf : F ds none) (k : ∀ H1, Ex H H1 → ES σ (.ref cB) none H1) : tDrop (tCallS (spDX K cB F) ES targs) D σ H :=
  h H x _ fun vs H2 A g hd => ⟨ds, none, A, g.d2, hd, hf, fun d e => (nomatch e), fun e H3 e3 => k H3 (g.ex.trans e3)⟩
end
/-! the law's spoilt rows -/
def deepD : Nat → PyData
  | 0 => .str "a"
  | n + 1 => .tuple [.str "add", deepD n, .int 1]
def odd1 : List PyData := [.none, .str "show", .tuple [], .tuple [.str "show"], .tuple [.str "show", .int 1, .int 2], .tuple [.str "set", .str "a"], .tuple [.str "set", .str "if", .int 1], .tuple [.str "set", .str "A", .int 1]]
def odd2 : List PyData := [.tuple [.str "set", .str "abcde", .int 1], .tuple [.str "put", .int 1], .list [.str "show", .int 1], .tuple [.int 1, .int 2], .tuple [.str "show", .int (-1)], .tuple [.str "show", .int 10000], .tuple [.str "show", .bool true]]
def odd3 : List PyData := [.tuple [.str "show", .str "show"], .tuple [.str "show", .tuple [.str "plus", .int 1, .int 2]], .tuple [.str "show", .tuple [.str "add", .int 1]], .tuple [.str "show", .tuple [.str "if", .int 1, .int 2]]]
def odd4 : List PyData := [.tuple [.str "show", .list [.str "add", .int 1, .int 2]], .tuple [.str "show", .tuple []]]
def odd5 : List PyData := [.tuple [.str "show", deepD 7], .tuple [.str "show", .none], .tuple [.str "set", .str "", .int 1]]
def oddD : List PyData := (((odd1 ++ odd2) ++ odd3) ++ odd4) ++ odd5
def rowsOf : PyData → List PyData
  | .tuple ds => ds
  | _ => []
def badOk (d : PyData) : Bool := okD d && (decide (d.depth ≤ 50) && (!isRow d && (headOk d && (rowsOf d).all headOk)))
theorem odd_ok : oddD.all badOk = true := by decide +kernel
theorem deep_ok : isSource (.tuple (List.replicate 8 [PyData.tuple [.str "show", deepD 6]]).flatten) = true := by decide +kernel
theorem odd_len : oddD.length = 24 := by decide +kernel
def badsD (src : Src) (bad : PyData) (k : Nat) : List PyData := [.tuple ((src.map Rw.enc).take k ++ [bad] ++ (src.map Rw.enc).drop k), .list (src.map Rw.enc), bad, .tuple (List.replicate 9 [PyData.tuple [.str "show", .int 1]]).flatten]
theorem badOk_iff {d : PyData} (h : badOk d = true) : okD d = true ∧ d.depth ≤ 50 ∧ isRow d = false ∧ headOk d = true ∧ (rowsOf d).all headOk = true := by
  unfold badOk at h
  simp only [Bool.and_eq_true, decide_eq_true_eq, Bool.not_eq_true'] at h
  exact h
theorem enc_head (r : Rw) : headOk r.enc = true := by cases r <;> rfl
theorem mem_spoilt {src : Src} {bad d : PyData} {k : Nat} (h : d ∈ (src.map Rw.enc).take k ++ [bad] ++ (src.map Rw.enc).drop k) : d = bad ∨ ∃ r ∈ src, d = r.enc := by
  simp only [List.mem_append, List.mem_singleton] at h
  rcases h with (h | h) | h
  · obtain ⟨r, hr, e⟩ := List.mem_map.mp (List.mem_of_mem_take h)
    exact .inr ⟨r, hr, e.symm⟩
  · exact .inl h
  · obtain ⟨r, hr, e⟩ := List.mem_map.mp (List.mem_of_mem_drop h)
    exact .inr ⟨r, hr, e.symm⟩
theorem bads_ok {src : Src} (hg : goodS src = true) {bad : PyData} (hb : badOk bad = true) (k : Nat) : ∀ d ∈ badsD src bad k, okD d = true ∧ d.depth ≤ 60 ∧ ∃ rs, (d = .tuple rs ∨ (rs = [] ∧ isT d "tuple" = false)) ∧ ∀ r ∈ rs, headOk r = true := by
  obtain ⟨b1, b2, b3, b4, b5⟩ := badOk_iff hb
  intro d hd
  unfold badsD at hd
  simp only [List.mem_cons, List.not_mem_nil, or_false] at hd
  rcases hd with rfl | rfl | rfl | rfl
  · refine ⟨ok_tup_of fun d hd => ?_, Nat.le_trans (depth_tuple (n := 50) fun d hd => ?_) (by decide), _, .inl rfl, fun d hd => ?_⟩
    · rcases mem_spoilt hd with rfl | ⟨r, hr, rfl⟩
      · exact b1
      · exact ok_row r (goodS_row hg hr)
    · rcases mem_spoilt hd with rfl | ⟨r, hr, rfl⟩
      · exact b2
      · exact Nat.le_trans (Rw.enc_depth (goodS_row hg hr)) (by decide)
    · rcases mem_spoilt hd with rfl | ⟨r, hr, rfl⟩
      · exact b4
      · exact enc_head r
  · refine ⟨ok_lst_of fun d hd => ?_, Nat.le_trans (depth_list (n := 50) fun d hd => ?_) (by decide), [], .inr ⟨rfl, rfl⟩, fun d hd => (nomatch hd)⟩
    · obtain ⟨r, hr, rfl⟩ := List.mem_map.mp hd
      exact ok_row r (goodS_row hg hr)
    · obtain ⟨r, hr, rfl⟩ := List.mem_map.mp hd
      exact Nat.le_trans (Rw.enc_depth (goodS_row hg hr)) (by decide)
  · refine ⟨b1, Nat.le_trans b2 (by decide), ?_⟩
    cases hT : isT d "tuple" with
    | false => exact ⟨[], .inr ⟨rfl, rfl⟩, fun d hd => (nomatch hd)⟩
    | true =>
      obtain ⟨ds, rfl⟩ := isT_tup hT
      exact ⟨ds, .inl rfl, fun r hr => List.all_eq_true.mp b5 r hr⟩
  · refine ⟨by decide +kernel, by decide +kernel, _, .inl rfl, fun r hr => ?_⟩
    have : (List.replicate 9 [PyData.tuple [.str "show", .int 1]]).flatten.all headOk = true := by decide +kernel
    exact List.all_eq_true.mp this r hr
theorem bads_no {src : Src} {bad : PyData} (hb : badOk bad = true) (k : Nat) : ∀ d ∈ badsD src bad k, d = bad ∨ isSource d = false := by
  obtain ⟨b1, b2, b3, b4, b5⟩ := badOk_iff hb
  intro d hd
  unfold badsD at hd
  simp only [List.mem_cons, List.not_mem_nil, or_false] at hd
  rcases hd with rfl | rfl | rfl | rfl
  · right
    show (decide (_ ≤ 8) && _) = false
    rw [Bool.and_eq_false_iff]
    right
    rw [List.all_eq_false]
    exact ⟨bad, by simp, by rw [b3]; simp⟩
  · exact .inr rfl
  · exact .inl rfl
  · right
    decide +kernel
theorem bads_at {src : Src} {bad : PyData} (hb : badOk bad = true) (k : Nat) (i : Nat) (h : i = 0 ∨ i = 1 ∨ i = 3) : ∃ d, (badsD src bad k)[i]? = some d ∧ isSource d = false := by
  obtain ⟨b1, b2, b3, b4, b5⟩ := badOk_iff hb
  rcases h with rfl | rfl | rfl
  · refine ⟨_, rfl, ?_⟩
    show (decide (_ ≤ 8) && _) = false
    rw [Bool.and_eq_false_iff]
    right
    rw [List.all_eq_false]
    exact ⟨bad, by simp, by rw [b3]; simp⟩
  · exact ⟨_, rfl, rfl⟩
  · exact ⟨_, rfl, by decide +kernel⟩
end LC

namespace LC
open PySem PySem.Spec PyProof.Rows L2 Evl
/-! ### methods -/
def tMet (C : Addr) (m : Str) (sp : Sp) (E : L2.St → XK) (ta : TE) (t : TA) : TE := fun σ H Q => ta σ H fun x H1 => ∃ a dx fs, x = .ref a ∧ H1 a = some (.ins C dx fs) ∧ fs.lookup m = none ∧ t σ H1 fun vs H2 => sp (.ref a :: vs) H2 Q (E σ)
/-- the class at C has a method m that keeps sp -/
def HasM (P : Program) (w : World) (K : Frag) (mg : Str → Option Value) (base : Heap) (CX : CXT) (k : Nat) (C : Addr) (m : Str) (ps : List Str) (sp : Sp) : Prop :=
  ∃ f fd, FnOk P w K mg base CX k f fd ps sp ∧ Binds K fd ps [] ∧ Meth K C m f
/-- the class at C, by the module's name x, is made by an __init__ that keeps sp -/
def HasI (P : Program) (w : World) (K : Frag) (mg : Str → Option Value) (base : Heap) (CX : CXT) (k : Nat) (C : Addr) (x : Str) (ps : List Str) (sp : Sp) : Prop :=
  ∃ f fd, FnOk P w K mg base CX k f fd ps sp ∧ Binds K fd ps [] ∧ Mk K C f ∧ mg x = some (.ref C)
section
variable {X : Cx} {CX : CXT} {k j : Nat} {C : Addr} {x m : Str} {ps : List Str} {sp : Sp} {E : L2.St → XK} {p pos apos : Pos} {e o : Expr} {es : List Expr} {ta : TE} {t : TA}
theorem passA {E : XK} (h : Passes CX X E) : ∀ σ : L2.St, PassesAt CX X σ ((fun _ => E) σ) := fun σ pins H s e s' I c => h pins σ H s e s' I c
theorem pe_hm {pl : Sem Bool} (he : PE X o ta) (c : Cls X.K C) (F : HasM X.prog X.w X.K X.mg X.base CX k C m ps sp) (hr : Room j X.A) (hk : k ≤ j) (hx : ∀ σ, PassesAt CX X σ (E σ)) (ha : PA X (e :: es) t)
    (hst : starEach (e :: es) X.env = (false, eval e X.env) :: starEach es X.env := by rfl) (hpl : (backTo pos (starEach es X.env)).any (·.1) = false := by rfl)
    (ht : eval (.Call (.Attribute o m apos) (e :: es) [] pos) X.env = (do
      let ov ← eval o X.env
      standAt apos.atName
      let (f, first) ← holding [ov] (getMethod ov m pl)
      callWith pos f first (backTo pos (starEach (e :: es) X.env)) (backToKw pos (keywordEach [] X.env))) := by rfl) :
    PE X (.Call (.Attribute o m apos) (e :: es) [] pos) (tMet C m sp E ta t) := by
  obtain ⟨f, fd, G, b, hm⟩ := F
  refine ⟨fun pins s σ H Q I h => ?_⟩
  refine PySem.W.methodCall_KW (pl := pl) (thn (he.run pins s σ H _ I h) fun u s1 ⟨x, H1, I1, rx, a, dx, fs, ex, ea, l, q⟩ => ?_) ht
  subst ex
  obtain rfl : u = Value.ref a := rx
  refine getmeth_ok I1 ea c hm l ?_
  refine PySem.W.callWith_K (first := [.ref a]) (h₀ := X.base) I.ok.mod.kin hm.kp (thn (ha.run pos pins s1 σ H1 _ I1 q) fun us s2 ⟨vs, H2, I2, r, q2⟩ => ⟨I2.kIn, ?_⟩) hst hpl
  exact run_fnS (us := .ref a :: us) (vs := .ref a :: vs) G (hr.mono hk) b (hx σ) I2 (.cons rfl r) q2
theorem pe_hm0 {pl : Sem Bool} (he : PE X o ta) (c : Cls X.K C) (F : HasM X.prog X.w X.K X.mg X.base CX k C m ps sp) (hr : Room j X.A) (hk : k ≤ j) (hx : ∀ σ, PassesAt CX X σ (E σ))
    (ht : eval (.Call (.Attribute o m apos) [] [] pos) X.env = (do
      let ov ← eval o X.env
      standAt apos.atName
      let (f, first) ← holding [ov] (getMethod ov m pl)
      callWith pos f first (backTo pos (starEach [] X.env)) (backToKw pos (keywordEach [] X.env))) := by rfl) :
    PE X (.Call (.Attribute o m apos) [] [] pos) (tMet C m sp E ta tNil) := by
  obtain ⟨f, fd, G, b, hm⟩ := F
  refine ⟨fun pins s σ H Q I h => ?_⟩
  refine PySem.W.methodCall_KW (pl := pl) (thn (he.run pins s σ H _ I h) fun u s1 ⟨x, H1, I1, rx, a, dx, fs, ex, ea, l, q⟩ => ?_) ht
  subst ex
  obtain rfl : u = Value.ref a := rx
  refine getmeth_ok I1 ea c hm l ?_
  exact PySem.W.callWith_K0 (first := [.ref a]) I1.kIn hm.kp (run_fnS (us := [.ref a]) (vs := [.ref a]) G (hr.mono hk) b (hx σ) I1 (.cons rfl .nil) q)
theorem pe_mk {E : XK} (F : HasI X.prog X.w X.K X.mg X.base CX k C x ps sp) (hr : Room j X.A) (hk : k + 1 ≤ j) (hg : Gl X x) (hx : Passes CX X E) (ha : PA X (e :: es) t) (hdb : (x == ("__debug__" : Str)) = false := by decide)
    (he : starEach (e :: es) X.env = (false, eval e X.env) :: starEach es X.env := by rfl) (hpl : (backTo pos (starEach es X.env)).any (·.1) = false := by rfl) : PE X (.Call (.Name x p) (e :: es) [] pos) (tMake C sp [] E t) := by
  obtain ⟨f, fd, G, b, M, m⟩ := F
  exact pe_make M G (hr.mono hk) hg m b .nil hx ha hdb he hpl
theorem pe_mk0 {E : XK} (F : HasI X.prog X.w X.K X.mg X.base CX k C x ps sp) (hr : Room j X.A) (hk : k + 1 ≤ j) (hg : Gl X x) (hx : Passes CX X E) (hdb : (x == ("__debug__" : Str)) = false := by decide) : PE X (.Call (.Name x p) [] [] pos) (tMake C sp [] E tNil) := by
  obtain ⟨f, fd, G, b, M, m⟩ := F
  exact pe_make0 M G (hr.mono hk) hg m b .nil hx hdb
theorem kSetFld {K : Frag} {f : Str} {tv : TE} {value : Expr} {pos' : Pos} (h : X.K = K) (ha : PE X o ta) (hv : PE X value tv) (hs : swapsWith value (some (.Attribute o f pos')) pos.line X.env = pure false := by rfl) : PS X (.Assign [.Attribute o f pos'] value pos) (sFld K ta tv f) := h ▸ ps_fld ha hv hs
theorem kAugFld {K : Frag} {f : Str} {tv : TE} {value : Expr} {pos' : Pos} (h : X.K = K) (ha : PE X o ta) (hv : PE X value tv) : PS X (.AugAssign (.Attribute o f pos') .Add value pos) (sFldAug K ta tv rAdd f) := h ▸ ps_fldaug ha hv in_add
theorem kIndex {K : Frag} (h : X.K = K) : MtR X "list.index" (rIndex K) := h ▸ mt_index
theorem kFld {K : Frag} {f : Str} (h : X.K = K) (he : PE X e ta) (hb : attributeBase e f X.env (eval e X.env) = eval e X.env := by rfl) : PE X (.Attribute e f pos) (tFld K ta f) := h ▸ pe_fld he hb
end
section
variable {P : Program} {w : World} {K : Frag} {mg : Str → Option Value} {base : Heap} {q : Str} {st : Stmt} {f C : Addr} {fd : FuncData} {N ps : List Str} {k : Nat} {sp : Sp} {x m : Str}
theorem hasM_x (F : FnP K x q st f fd) (g : Meth K C m f) (b : Binds K fd ps []) (S : FnScope N ps (defScope st)) (len : ∀ vs H Q E, sp vs H Q E → vs.length = ps.length)
    (hbody : ∀ (cdv : Value) (A : Around) (outer : List Env) (s : Shared) (H : Hp) (vs : List V) (Q : VK) (E : XK), Room k (A.deeper (envOfC q (defScope st) s.heap.objs.size f cdv)) → sp vs H Q E →
      ∃ t, PSs (cxOf (L2.CX P w) P w K mg base N q (defScope st) f cdv A outer s H E) (defBody st) t ∧ t { nx := fun _ H' => Q .non H', rt := Q } (start N vs) H) : HasM P w K mg base (L2.CX P w) (k + 1) C m ps sp :=
  ⟨f, fd, F.ok S len hbody, b, g⟩
theorem hasM_p (F : FnP K x q st f fd) (g : Meth K C m f) (b : Binds K fd ps []) (S : FnScope N ps (defScope st)) (len : ∀ vs H Q E, sp vs H Q E → vs.length = ps.length)
    (hbody : ∀ (cdv : Value) (A : Around) (outer : List Env) (s : Shared) (H : Hp) (vs : List V) (Q : VK) (E : XK), Room k (A.deeper (envOfC q (defScope st) s.heap.objs.size f cdv)) → sp vs H Q E →
      ∃ t, PSs (cxOf CX0 P w K mg base N q (defScope st) f cdv A outer s H E).nox (defBody st) t ∧ t { nx := fun _ H' => Q .non H', rt := Q } (start N vs) H) : HasM P w K mg base CX0 (k + 1) C m ps sp :=
  ⟨f, fd, F.ok S len (fun cdv A outer s H vs Q E hr h => by
    obtain ⟨t, ht, r⟩ := hbody cdv A outer s H vs Q E hr h
    exact ⟨t, PSs.nox ht, r⟩), b, g⟩
theorem hasI_p (F : FnP K "__init__" q st f fd) (M : Mk K C f) (g : mg x = some (.ref C)) (b : Binds K fd ps []) (S : FnScope N ps (defScope st)) (len : ∀ vs H Q E, sp vs H Q E → vs.length = ps.length)
    (hbody : ∀ (cdv : Value) (A : Around) (outer : List Env) (s : Shared) (H : Hp) (vs : List V) (Q : VK) (E : XK), Room k (A.deeper (envOfC q (defScope st) s.heap.objs.size f cdv)) → sp vs H Q E →
      ∃ t, PSs (cxOf CX0 P w K mg base N q (defScope st) f cdv A outer s H E).nox (defBody st) t ∧ t { nx := fun _ H' => Q .non H', rt := Q } (start N vs) H) : HasI P w K mg base CX0 (k + 1) C x ps sp :=
  ⟨f, fd, F.ok S len (fun cdv A outer s H vs Q E hr h => by
    obtain ⟨t, ht, r⟩ := hbody cdv A outer s H vs Q E hr h
    exact ⟨t, PSs.nox ht, r⟩), b, M, g⟩
end
/-! ### a notebook's state -/
structure RecS where
  lines : Src
  asked : List (Str × Option Int)
  shown : List Int
  sets : List (Str × Int)
  why : Option (Str × Option Str)
structure CellS where
  src : Src
  count : Nat
  struck : Bool
  recd : Option RecS
structure NbS where
  row : List Nat
  cell : Nat → CellS
  after : Nat
def encO : Option Int → PyData
  | none => .none
  | some i => .int i
def encN : Option Str → PyData
  | none => .none
  | some x => .str x
def encAsk (p : Str × Option Int) : PyData := .tuple [.str p.1, encO p.2]
def encWhy : Option (Str × Option Str) → PyData
  | none => .none
  | some (w, x) => .tuple [.str w, encN x]
structure NbC where
  N : Addr
  C : Addr
  R : Addr
def RecAt (K : Frag) (T : NbC) (B : Hp) (v : V) : Option RecS → Prop
  | none => v = .non
  | some r => ∃ p dx lv av sv dv wv, v = .ref p ∧ B p = some (.ins T.R dx [("lines", lv), ("asked", av), ("shown", sv), ("sets", .ref dv), ("why", wv)]) ∧ Dt K B lv (encS r.lines) ∧ Dt K B av (.list (r.asked.map encAsk)) ∧
      Dt K B sv (.list (r.shown.map PyData.int)) ∧ B dv = some (.dK (r.sets.map fun q => ((Sum.inr q.1 : Key), V.int q.2))) ∧ Dt K B wv (encWhy r.why)
def CellAt (K : Frag) (T : NbC) (B H : Hp) (p : Addr) (c : CellS) : Prop := ∃ dx lv rv, H p = some (.ins T.C dx [("lines", lv), ("count", .int (c.count : Int)), ("struck", .bl c.struck), ("record", rv)]) ∧ Dt K B lv (encS c.src) ∧ RecAt K T B rv c.recd
structure NbL (K : Frag) (T : NbC) (M : Addr → Prop) (B H : Hp) (nb : Addr) (st : NbS) (dn c r : Addr) (kvs : List (Key × V)) (ad : Nat → Addr) : Prop where
  x : Ex B H
  m : ∀ a, M a → B a = none ∧ H a ≠ none
  hn : H nb = some (.ins T.N dn [("cells", .ref c), ("row", .ref r), ("after", .int (st.after : Int))])
  hc : H c = some (.dK kvs)
  hr : H r = some (.lst (st.row.map fun n : Nat => V.int (n : Int)))
  mn : M nb
  mc : M c
  mr : M r
  kin : ∀ n ∈ st.row, valV kvs (.inl (n : Int)) = some (.ref (ad n))
  kout : ∀ i : Int, (∀ n ∈ st.row, (n : Int) ≠ i) → valV kvs (.inl i) = none
  kl : kvs.length ≤ st.after
  mad : ∀ n ∈ st.row, M (ad n)
  cells : ∀ n ∈ st.row, CellAt K T B H (ad n) (st.cell n)
  inj : ∀ n ∈ st.row, ∀ m ∈ st.row, ad n = ad m → n = m
/-- what is so of every state -/
structure NbG (st : NbS) : Prop where
  good : ∀ n ∈ st.row, goodS (st.cell n).src = true
  lt : ∀ n ∈ st.row, n < st.after
  nd : st.row.Nodup
  len : st.row.length ≤ 30
  few : st.after ≤ 5000
  cnt : ∀ n ∈ st.row, (st.cell n).count ≤ 5000
def NB (K : Frag) (T : NbC) (M : Addr → Prop) (B H : Hp) (nb : Addr) (st : NbS) : Prop := ∃ dn c r kvs ad, NbL K T M B H nb st dn c r kvs ad
/-- what may change: M; new things -/
structure Fr (M M' : Addr → Prop) (B H H' B' : Hp) : Prop where
  fr : ∀ a o, H a = some o → ¬ M a → H' a = some o
  xd : Ex B B'
  d2 : Ex B' H'
  nw : ∀ a, B a = none → H a ≠ none → B' a = none
  mm : ∀ a, M' a → M a ∨ H a = none
  sub : ∀ a, M a → M' a
  stay : ∀ a, H a ≠ none → H' a ≠ none
section
variable {K : Frag} {T : NbC} {M M' M'' : Addr → Prop} {B B' B'' H H' H'' : Hp} {nb : Addr} {st : NbS}
theorem RecAt.mono (e : Ex B B') {v : V} : ∀ {r : Option RecS}, RecAt K T B v r → RecAt K T B' v r
  | none, h => h
  | some r, ⟨p, dx, lv, av, sv, dv, wv, h1, h2, h3, h4, h5, h6, h7⟩ => ⟨p, dx, lv, av, sv, dv, wv, h1, e _ _ h2, dp_ex e _ _ h3, dp_ex e _ _ h4, dp_ex e _ _ h5, e _ _ h6, dp_ex e _ _ h7⟩
theorem CellAt.mono (e : Ex B B') {p : Addr} {c : CellS} (h : CellAt K T B H p c) (hp : ∀ o, H p = some o → H' p = some o) : CellAt K T B' H' p c := by
  obtain ⟨dx, lv, rv, h1, h2, h3⟩ := h
  exact ⟨dx, lv, rv, hp _ h1, dp_ex e _ _ h2, h3.mono e⟩
theorem Fr.of (g : Gr B H H' B') : Fr M M B H H' B' := ⟨fun a o h _ => g.ex a o h, g.xd, g.d2, g.fr, fun a h => .inl h, fun a h => h, fun a h => ne_none g.ex h⟩
theorem Fr.trans (x : Fr M M' B H H' B') (y : Fr M' M'' B' H' H'' B'') : Fr M M'' B H H'' B'' := by
  refine ⟨fun a o h n => y.fr a o (x.fr a o h n) fun z => ?_, x.xd.trans y.xd, y.d2, fun a hb hh => y.nw a (x.nw a hb hh) (x.stay a hh), fun a h => ?_, fun a h => y.sub a (x.sub a h), fun a h => y.stay a (x.stay a h)⟩
  · rcases x.mm a z with z | z
    · exact n z
    · rw [h] at z
      cases z
  · rcases y.mm a h with z | z
    · exact x.mm a z
    · right
      cases q : H a with
      | none => rfl
      | some o => exact absurd z (x.stay a (by rw [q]; exact fun z => nomatch z))
/-- another notebook, apart from what changed -/
theorem NB.apart {N : Addr → Prop} (h : NB K T N B H nb st) (f : Fr M M' B H H' B') (hd : ∀ a, N a → ¬ M a) : NB K T N B' H' nb st := by
  obtain ⟨dn, c, r, kvs, ad, h⟩ := h
  have go : ∀ a o, N a → H a = some o → H' a = some o := fun a o n e => f.fr a o e (hd a n)
  exact ⟨dn, c, r, kvs, ad, f.d2, fun a n => ⟨f.nw a (h.m a n).1 (h.m a n).2, f.stay a (h.m a n).2⟩, go _ _ h.mn h.hn, go _ _ h.mc h.hc, go _ _ h.mr h.hr, h.mn, h.mc, h.mr, h.kin, h.kout, h.kl, h.mad, fun n hn => (h.cells n hn).mono f.xd fun o => go _ _ (h.mad n hn), h.inj⟩
theorem NB.gr (h : NB K T M B H nb st) (g : Gr B H H' B') : NB K T M B' H' nb st := h.apart (M := fun _ => False) (M' := fun _ => False) (Fr.of g) fun _ _ z => z
theorem NB.ex (h : NB K T M B H nb st) (e : Ex H H') : NB K T M B H' nb st := h.gr (Gr.base (by obtain ⟨_, _, _, _, _, h⟩ := h; exact h.x) e)
theorem NB.x (h : NB K T M B H nb st) : Ex B H := by obtain ⟨_, _, _, _, _, h⟩ := h; exact h.x
end
/-- the cell n of the notebook stands at p -/
def CellIs (H : Hp) (nb : Addr) (n : Nat) (p : Addr) : Prop := ∃ C dn c r i kvs, H nb = some (.ins C dn [("cells", .ref c), ("row", .ref r), ("after", .int i)]) ∧ H c = some (.dK kvs) ∧ valV kvs (.inl (n : Int)) = some (.ref p)
/-- cells stand where they stood -/
def Kept (H H' : Hp) (nb : Addr) (row : List Nat) : Prop := ∀ n ∈ row, ∀ p, CellIs H nb n p → CellIs H' nb n p
section
variable {K : Frag} {T : NbC} {M M' : Addr → Prop} {B B' H H' : Hp} {nb dn c r dn' c' r' : Addr} {st st' : NbS} {kvs kvs' : List (Key × V)} {ad ad' : Nat → Addr} {n : Nat} {p : Addr}
theorem NbL.cellIs (L : NbL K T M B H nb st dn c r kvs ad) (hn : n ∈ st.row) : CellIs H nb n (ad n) := ⟨_, _, _, _, _, _, L.hn, L.hc, L.kin n hn⟩
theorem NbL.adOf (L : NbL K T M B H nb st dn c r kvs ad) (h : CellIs H nb n p) : n ∈ st.row ∧ p = ad n := by
  obtain ⟨C, dn2, c2, r2, i2, kvs2, h1, h2, h3⟩ := h
  rw [L.hn] at h1
  cases h1
  rw [L.hc] at h2
  cases h2
  by_cases hn : n ∈ st.row
  · rw [L.kin n hn] at h3
    cases h3
    exact ⟨hn, rfl⟩
  · rw [L.kout n fun m hm e => hn (by have : m = n := by omega
                                      rw [← this]; exact hm)] at h3
    cases h3
theorem Kept.of (L : NbL K T M B H nb st dn c r kvs ad) (L' : NbL K T M' B' H' nb st' dn' c' r' kvs' ad') (h : ∀ n ∈ st'.row, n ∈ st.row → ad' n = ad n) : Kept H H' nb st'.row := fun n hn p hp => by
  obtain ⟨h1, rfl⟩ := L.adOf hp
  rw [← h n hn h1]
  exact L'.cellIs hn
theorem Kept.ex {row : List Nat} (e : Ex H H') : Kept H H' nb row := fun n hn p ⟨C, dn, c, r, i, kvs, h1, h2, h3⟩ => ⟨C, dn, c, r, i, kvs, e _ _ h1, e _ _ h2, h3⟩
end
/-- a promise about a notebook: R tells what comes of it, or which class is raised -/
def spNb (K : Frag) (T : NbC) (R : NbS → List PyData → (PyData ⊕ Addr) → NbS → Prop) : Sp := fun vs H Q E => ∃ M B nb st ws ds o st', vs = .ref nb :: ws ∧ NB K T M B H nb st ∧ NbG st ∧ DtAll K B ws ds ∧ R st ds o st' ∧
  (∀ d, o = .inl d → ∀ v H' B' M', Fr M M' B H H' B' → NB K T M' B' H' nb st' → Kept H H' nb st'.row → Dt K B' v d → Q v H') ∧ (∀ c, o = .inr c → ∀ H' B' M', Fr M M' B H H' B' → NB K T M' B' H' nb st' → E (.ref c) none H')
theorem Kept.trans {H H' H'' : Hp} {nb : Addr} {row row' : List Nat} (x : Kept H H' nb row) (y : Kept H' H'' nb row') (h : ∀ n ∈ row', n ∈ row) : Kept H H'' nb row' := fun n hn p hp => y n hn p (x n (h n hn) p hp)
/-- the classes' facts -/
structure NbT (K : Frag) (T : NbC) : Prop where
  cN : Cls K T.N
  cC : Cls K T.C
  cR : Cls K T.R
  nN : ∀ {f : Str}, f ∈ (["cells", "row", "after"] : List Str) → NoAttr K T.N f
  nC : ∀ {f : Str}, f ∈ (["lines", "count", "struck", "record"] : List Str) → NoAttr K T.C f
  nR : ∀ {f : Str}, f ∈ (["lines", "asked", "shown", "sets", "why"] : List Str) → NoAttr K T.R f
end LC

namespace LC
open PySem PySem.Spec PyProof.Rows L2 Evl
/-! ### readings: attributes, dicts -/
section
variable {K : Frag} {σ : L2.St} {H : Hp} {ta td ty te tv : TE} {D : Ends} {a C dx : Addr} {fs : List (Str × V)} {f : Str} {v y : V} {kvs : List (Key × V)} {k : Key}
theorem ev_fld (h : Ev ta σ H (.ref a)) (ho : H a = some (.ins C dx fs)) (c : Cls K C) (n : NoAttr K C f) (l : fs.lookup f = some v) : Ev (tFld K ta f) σ H v := fun H1 e Q q => h H1 e _ fun H2 e2 => ⟨a, C, dx, fs, v, rfl, e2 _ _ (e _ _ ho), c, n, l, q H2 e2⟩
theorem ev_dget (hd : Ev td σ H (.ref a)) (hy : Ev ty σ H (kV k)) (ha : H a = some (.dK kvs)) (hv : valV kvs k = some v) : Ev (tDGet td ty) σ H v := fun H1 e Q q =>
  hd H1 e _ fun H2 e2 => hy H2 (e.trans e2) _ fun H3 e3 => ⟨a, v, rfl, hv ▸ DGet.k (k := k) (((e.trans e2).trans e3) _ _ ha), q H3 (e2.trans e3)⟩
theorem ev_din (hy : Ev ty σ H (kV k)) (hd : Ev td σ H (.ref a)) (ha : H a = some (.dK kvs)) : Ev (tDIn ty td) σ H (.bl (valV kvs k).isSome) := fun H1 e Q q =>
  hy H1 e _ fun H2 e2 => hd H2 (e.trans e2) _ fun H3 e3 => ⟨a, _, rfl, DGet.k (k := k) (((e.trans e2).trans e3) _ _ ha), q H3 (e2.trans e3)⟩
theorem ev_dnotin (hy : Ev ty σ H (kV k)) (hd : Ev td σ H (.ref a)) (ha : H a = some (.dK kvs)) : Ev (tDNotIn ty td) σ H (.bl (!(valV kvs k).isSome)) := fun H1 e Q q =>
  hy H1 e _ fun H2 e2 => hd H2 (e.trans e2) _ fun H3 e3 => ⟨a, _, rfl, DGet.k (k := k) (((e.trans e2).trans e3) _ _ ha), q H3 (e2.trans e3)⟩
theorem s_fld (hv : Ev tv σ H y) (ha : Ev ta σ H (.ref a)) (ho : H a = some (.ins C dx fs)) (c : Cls K C) (n : NoAttr K C f) (hl : fs.length < 1000) (kk : ∀ H2, Ex H H2 → D.nx σ (upd H2 a (.ins C dx (putF f y fs)))) : sFld K ta tv f D σ H :=
  hv H (Ex.refl H) _ fun H1 e1 => ha H1 e1 _ fun H2 e2 => ⟨a, C, dx, fs, rfl, e2 _ _ (e1 _ _ ho), c, n, hl, kk H2 (e1.trans e2)⟩
theorem s_fldaug {i j : Int} (ha : Ev ta σ H (.ref a)) (ho : H a = some (.ins C dx fs)) (c : Cls K C) (n : NoAttr K C f) (l : fs.lookup f = some (.int i)) (hv : Ev tv σ H (.int j)) (hl : fs.length < 1000) (kk : ∀ H2, Ex H H2 → D.nx σ (upd H2 a (.ins C dx (putF f (.int (i + j)) fs)))) : sFldAug K ta tv rAdd f D σ H :=
  ha H (Ex.refl H) _ fun H1 e1 => ⟨a, C, dx, fs, .int i, rfl, e1 _ _ ho, c, n, l, hv H1 e1 _ fun H2 e2 => ⟨i, j, rfl, rfl, dx, fs, e2 _ _ (e1 _ _ ho), hl, kk H2 (e1.trans e2)⟩⟩
end
section
variable {K : Frag} {T : NbC} {M : Addr → Prop} {B H : Hp} {nb dn c r : Addr} {st : NbS} {kvs : List (Key × V)} {ad : Nat → Addr} {σ : L2.St} {ta ty te : TE} {n : Nat}
theorem NbL.cellsE (L : NbL K T M B H nb st dn c r kvs ad) (U : NbT K T) (h : Ev ta σ H (.ref nb)) : Ev (tFld K ta "cells") σ H (.ref c) := ev_fld h L.hn U.cN (U.nN (by decide)) rfl
theorem NbL.rowE (L : NbL K T M B H nb st dn c r kvs ad) (U : NbT K T) (h : Ev ta σ H (.ref nb)) : Ev (tFld K ta "row") σ H (.ref r) := ev_fld h L.hn U.cN (U.nN (by decide)) rfl
theorem NbL.afterE (L : NbL K T M B H nb st dn c r kvs ad) (U : NbT K T) (h : Ev ta σ H (.ref nb)) : Ev (tFld K ta "after") σ H (.int (st.after : Int)) := ev_fld h L.hn U.cN (U.nN (by decide)) rfl
theorem NbL.atE (L : NbL K T M B H nb st dn c r kvs ad) (U : NbT K T) (h : Ev ta σ H (.ref nb)) (hy : Ev ty σ H (.int (n : Int))) (hn : n ∈ st.row) : Ev (tDGet (tFld K ta "cells") ty) σ H (.ref (ad n)) := ev_dget (k := .inl (n : Int)) (L.cellsE U h) hy L.hc (L.kin n hn)
theorem NbL.countE (L : NbL K T M B H nb st dn c r kvs ad) (U : NbT K T) (hn : n ∈ st.row) (h : Ev te σ H (.ref (ad n))) : Ev (tFld K te "count") σ H (.int ((st.cell n).count : Int)) := by
  obtain ⟨dx, lv, rv, h1, h2, h3⟩ := L.cells n hn
  exact ev_fld h h1 U.cC (U.nC (by decide)) rfl
theorem NbL.struckE (L : NbL K T M B H nb st dn c r kvs ad) (U : NbT K T) (hn : n ∈ st.row) (h : Ev te σ H (.ref (ad n))) : Ev (tFld K te "struck") σ H (.bl (st.cell n).struck) := by
  obtain ⟨dx, lv, rv, h1, h2, h3⟩ := L.cells n hn
  exact ev_fld h h1 U.cC (U.nC (by decide)) rfl
theorem NbL.linesE (L : NbL K T M B H nb st dn c r kvs ad) (U : NbT K T) (hn : n ∈ st.row) (h : Ev te σ H (.ref (ad n))) : ∃ lv, Ev (tFld K te "lines") σ H lv ∧ Dt K B lv (encS (st.cell n).src) := by
  obtain ⟨dx, lv, rv, h1, h2, h3⟩ := L.cells n hn
  exact ⟨lv, ev_fld h h1 U.cC (U.nC (by decide)) rfl, h2⟩
theorem NbL.recE (L : NbL K T M B H nb st dn c r kvs ad) (U : NbT K T) (hn : n ∈ st.row) (h : Ev te σ H (.ref (ad n))) : ∃ rv, Ev (tFld K te "record") σ H rv ∧ RecAt K T B rv (st.cell n).recd := by
  obtain ⟨dx, lv, rv, h1, h2, h3⟩ := L.cells n hn
  exact ⟨rv, ev_fld h h1 U.cC (U.nC (by decide)) rfl, h3⟩
theorem NbL.dtRow (L : NbL K T M B H nb st dn c r kvs ad) : Dt K H (.ref r) (.list (st.row.map fun n : Nat => PyData.int (n : Int))) := by
  refine .lst L.hr ?_
  have := dt_ints (K := K) (H := H) (st.row.map fun n : Nat => (n : Int))
  rw [List.map_map, List.map_map] at this
  exact this
theorem NbL.ex {H' : Hp} (L : NbL K T M B H nb st dn c r kvs ad) (e : Ex H H') : NbL K T M B H' nb st dn c r kvs ad :=
  ⟨L.x.trans e, fun a h => ⟨(L.m a h).1, ne_none e (L.m a h).2⟩, e _ _ L.hn, e _ _ L.hc, e _ _ L.hr, L.mn, L.mc, L.mr, L.kin, L.kout, L.kl, L.mad, fun n hn => (L.cells n hn).mono (Ex.refl _) fun o => e _ _, L.inj⟩
theorem NbL.toNB (L : NbL K T M B H nb st dn c r kvs ad) : NB K T M B H nb st := ⟨dn, c, r, kvs, ad, L⟩
theorem NbL.gr {B' H' : Hp} (L : NbL K T M B H nb st dn c r kvs ad) (g : Gr B H H' B') : NbL K T M B' H' nb st dn c r kvs ad :=
  ⟨g.d2, fun a h => ⟨g.fr a (L.m a h).1 (L.m a h).2, ne_none g.ex (L.m a h).2⟩, g.ex _ _ L.hn, g.ex _ _ L.hc, g.ex _ _ L.hr, L.mn, L.mc, L.mr, L.kin, L.kout, L.kl, L.mad, fun n hn => (L.cells n hn).mono g.xd fun o => g.ex _ _, L.inj⟩
/-- a write within M -/
theorem fr_upd {a : Addr} {o : HO} (x : Ex B H) (hm : M a) (hb : B a = none) (hh : H a ≠ none) : Fr M M B H (upd H a o) B := by
  refine ⟨fun b u h n => ?_, Ex.refl B, ex_upd x hb, fun b h _ => h, fun b h => .inl h, fun b h => h, fun b h => ?_⟩
  · rw [upd_ne (fun z : b = a => n (by rw [z]; exact hm))]
    exact h
  · by_cases z : b = a
    · rw [z, upd_same]
      exact fun z => nomatch z
    · rw [upd_ne z]
      exact h
end
/-! ### which data are cells -/
def isCellD (st : NbS) : PyData → Bool
  | .int i => st.row.any fun n => decide ((n : Int) = i)
  | _ => false
theorem isCell_iff {st : NbS} {d : PyData} : isCellD st d = true ↔ ∃ n ∈ st.row, d = .int (n : Int) := by
  cases d with
  | int i =>
    unfold isCellD
    rw [List.any_eq_true]
    constructor
    · rintro ⟨n, h1, h2⟩
      exact ⟨n, h1, by rw [of_decide_eq_true h2]⟩
    · rintro ⟨n, h1, h2⟩
      exact ⟨n, h1, decide_eq_true (PyData.int.inj h2).symm⟩
  | _ =>
    constructor
    · intro h; cases h
    · rintro ⟨n, _, h⟩; cases h
theorem NbL.isSome {K : Frag} {T : NbC} {M : Addr → Prop} {B H : Hp} {nb dn c r : Addr} {st : NbS} {kvs : List (Key × V)} {ad : Nat → Addr} (L : NbL K T M B H nb st dn c r kvs ad) (i : Int) : (valV kvs (.inl i)).isSome = isCellD st (.int i) := by
  cases h : isCellD st (.int i) with
  | true =>
    obtain ⟨n, hn, e⟩ := isCell_iff.mp h
    cases e
    rw [L.kin n hn]
    rfl
  | false =>
    rw [L.kout i fun n hn e => ?_]
    · rfl
    · have := isCell_iff.mpr ⟨n, hn, by rw [e]⟩
      rw [h] at this
      cases this
theorem cell_within {st : NbS} (G : NbG st) {d : PyData} (h : isCellD st d = true) : isWithin d 0 (st.after : Int) = true := by
  obtain ⟨n, hn, rfl⟩ := isCell_iff.mp h
  have := G.lt n hn
  unfold isWithin
  rw [Bool.and_eq_true]
  exact ⟨decide_eq_true (by omega), decide_eq_true (by omega)⟩
/-! ### promises -/
def spNbI (K : Frag) (T : NbC) : Sp := fun vs H Q _ => ∃ x dx, vs = [.ref x] ∧ H x = some (.ins T.N dx []) ∧ ∀ c r H', H c = none → H r = none → c ≠ r → H' x = some (.ins T.N dx [("cells", .ref c), ("row", .ref r), ("after", .int 0)]) → H' c = some (.dK []) → H' r = some (.lst []) → (∀ a o, a ≠ x → H a = some o → H' a = some o) → Q .non H'
def spCellI (K : Frag) (T : NbC) : Sp := fun vs H Q _ => ∃ x dx v, vs = [.ref x, v] ∧ H x = some (.ins T.C dx []) ∧ ∀ H', H' x = some (.ins T.C dx [("lines", v), ("count", .int 0), ("struck", .bl false), ("record", .non)]) → (∀ a o, a ≠ x → H a = some o → H' a = some o) → Q .non H'
/-- a promise of one that only looks -/
def spNq (K : Frag) (T : NbC) (R : NbS → List PyData → (PyData ⊕ Addr) → Prop) : Sp := fun vs H Q E => ∃ M B nb st ws ds o, vs = .ref nb :: ws ∧ NB K T M B H nb st ∧ NbG st ∧ DtAll K B ws ds ∧ R st ds o ∧ (∀ d, o = .inl d → Rt K B H d Q) ∧ (∀ c, o = .inr c → ∀ H', Ex H H' → E (.ref c) none H')
def R_look_cell (cB : Addr) (st : NbS) (ds : List PyData) (o : PyData ⊕ Addr) : Prop := ∃ d, ds = [d] ∧ o = if isCellD st d then .inl .none else .inr cB
def R_look_place (cB : Addr) (st : NbS) (ds : List PyData) (o : PyData ⊕ Addr) : Prop := ∃ d i, ds = [d, .int i] ∧ o = if isWithin d 0 i then .inl .none else .inr cB
/-! ### readings with a part for the data -/
def EvB (K : Frag) (te : TE) (σ : L2.St) (B H : Hp) (d : PyData) : Prop := ∀ H1, Ex H H1 → ∀ Q : VK, (∀ v H2 Hd, Gr B H1 H2 Hd → Dt K Hd v d → Q v H2) → te σ H1 Q
def EvBs (K : Frag) (ta : TA) (σ : L2.St) (B H : Hp) (ds : List PyData) : Prop := ∀ H1, Ex H H1 → ∀ Q : List V → Hp → Prop, (∀ vs H2 Hd, Gr B H1 H2 Hd → DtAll K Hd vs ds → Q vs H2) → ta σ H1 Q
section
variable {K : Frag} {σ : L2.St} {B H H' : Hp} {te ta tb : TE} {d e : PyData} {targs : TA} {ds : List PyData} {D : Ends}
theorem EvD.toB (h : EvD K te σ B d) (x : Ex B H) : EvB K te σ B H d := fun H1 e Q q => h H1 (x.trans e) Q q
theorem EvB.toD (h : EvB K te σ H H d) : EvD K te σ H d := h
theorem EvB.ex (h : EvB K te σ B H d) (x : Ex H H') : EvB K te σ B H' d := fun H1 e Q q => h H1 (x.trans e) Q q
theorem evb_v {v : V} (x : Ex B H) (h : Ev te σ H v) (hd : Dt K B v d) : EvB K te σ B H d := fun H1 e Q q => h H1 e Q fun H2 e2 => q v H2 B (Gr.base (x.trans e) e2) hd
theorem evb_i {i : Int} (x : Ex B H) (h : Ev te σ H (.int i)) : EvB K te σ B H (.int i) := evb_v x h (.int i)
theorem evb_b {b : Bool} (x : Ex B H) (h : Ev te σ H (.bl b)) : EvB K te σ B H (.bool b) := evb_v x h (.bl b)
theorem evb_is {d' : PyData} (h : EvB K te σ B H d) (e : d = d') : EvB K te σ B H d' := e ▸ h
theorem evB_int {i : Int} (h : EvB K te σ B H (.int i)) : Ev te σ H (.int i) := fun H1 e Q q => h H1 e Q fun v H2 Hd g hd => by rw [dp_int hd]; exact q H2 g.ex
theorem evB_str {x : Str} (h : EvB K te σ B H (.str x)) : Ev te σ H (.str x) := fun H1 e Q q => h H1 e Q fun v H2 Hd g hd => by rw [dp_str hd]; exact q H2 g.ex
theorem evB_bl {b : Bool} (h : EvB K te σ B H (.bool b)) : Ev te σ H (.bl b) := fun H1 e Q q => h H1 e Q fun v H2 Hd g hd => by rw [dp_bool hd]; exact q H2 g.ex
theorem ebs_nil (x : Ex B H) : EvBs K tNil σ B H [] := fun H1 e _ q => q [] H1 B (Gr.base (x.trans e) (Ex.refl H1)) .nil
theorem ebs_cons {tr : TA} (h : EvB K te σ B H d) (hr : EvBs K tr σ B H ds) : EvBs K (tCons te tr) σ B H (d :: ds) := fun H1 e _ q =>
  h H1 e _ fun v H2 A g hd => hr H2 (e.trans g.ex) _ fun vs H3 C g2 hds => q (v :: vs) H3 _ (g.join g2) (.cons (dp_ex join_l _ _ hd) (dpAll_ex (join_r (g.d2.trans g2.ex) g2.d2) _ _ hds))
theorem evb_tup (h : EvBs K targs σ B H ds) (hl : ds.length ≤ 100000) : EvB K (tTup targs) σ B H (.tuple ds) := fun H1 e _ q =>
  h H1 e _ fun vs H2 Hd g hds => ⟨by rw [dpAll_len hds]; exact sz_of hl, fun p hp => q (.ref p) _ _ (g.new _ hp) (.tup (st_of upd_same) (dpAll_ex (Ex.new (fresh_back g.d2 hp)) _ _ hds))⟩
theorem evb_lst (h : EvBs K targs σ B H ds) (hl : ds.length ≤ 100000) : EvB K (tLst targs) σ B H (.list ds) := fun H1 e _ q =>
  h H1 e _ fun vs H2 Hd g hds => ⟨by rw [dpAll_len hds]; exact sz_of hl, fun p hp => q (.ref p) _ _ (g.new _ hp) (.lst upd_same (dpAll_ex (Ex.new (fresh_back g.d2 hp)) _ _ hds))⟩
theorem s_asgB {i : Nat} (h : EvB K te σ B H d) (k : ∀ v H1 Hd, Gr B H H1 Hd → Dt K Hd v d → D.nx (σ.set i (some v)) H1) : tAsg te (gName i) D σ H := h H (Ex.refl H) _ k
theorem s_retB (h : EvB K te σ B H d) (k : ∀ v H1 Hd, Gr B H H1 Hd → Dt K Hd v d → D.rt v H1) : tRet te D σ H := h H (Ex.refl H) _ k
/-- list(xs) of a list that may change -/
theorem evb_copy {a : Addr} {xs : List V} (x : Ex B H) (h : Ev te σ H (.ref a)) (ha : H a = some (.lst xs)) (hd : DtAll K B xs ds) : EvB K (tCB (rLstU K) (tCons te tNil)) σ B H (.list ds) := fun H1 e Q q =>
  h H1 e _ fun H2 e2 => ⟨a, xs, rfl, .inl (sq_of (e2 _ _ (e _ _ ha))), fun l hl => q _ _ _ ((Gr.base (x.trans e) e2).new _ hl) (.lst upd_same (dpAll_ex (Ex.new (fresh_back ((x.trans e).trans e2) hl)) _ _ hd))⟩
end
section
variable {K : Frag} {T : NbC} {M : Addr → Prop} {B H : Hp} {nb : Addr} {st st' : NbS} {σ : L2.St} {ta : TE} {targs : TA} {ds : List PyData} {d : PyData} {o : PyData ⊕ Addr} {E : L2.St → XK} {m : Str} {D : Ends} {Q : VK}
/-- a method's name is no attribute of a notebook -/
def NoF (m : Str) : Prop := ∀ a b c : V, (([("cells", a), ("row", b), ("after", c)] : List (Str × V)).lookup m) = none
theorem t_metK {R : NbS → List PyData → (PyData ⊕ Addr) → NbS → Prop} (nf : NoF m) (hs : Ev ta σ H (.ref nb)) (hN : NB K T M B H nb st) (hG : NbG st) (ha : EvBs K targs σ B H ds) (hf : R st ds o st')
    (k1 : ∀ d, o = .inl d → ∀ v H' B' M', Fr M M' B H H' B' → NB K T M' B' H' nb st' → Kept H H' nb st'.row → Dt K B' v d → Q v H') (k2 : ∀ c, o = .inr c → ∀ H' B' M', Fr M M' B H H' B' → NB K T M' B' H' nb st' → E σ (.ref c) none H') : tMet T.N m (spNb K T R) E ta targs σ H Q := by
  refine hs H (Ex.refl H) _ fun H1 e1 => ?_
  obtain ⟨dn, c, r, kvs, ad, L⟩ := hN
  refine ⟨nb, dn, _, rfl, e1 _ _ L.hn, nf _ _ _, ?_⟩
  refine ha H1 e1 _ fun vs H2 Hd g hds => ?_
  have g2 : Gr B H H2 Hd := g.after e1
  exact ⟨M, Hd, nb, st, vs, ds, o, st', rfl, (L.gr g2).toNB, hG, hds, hf, fun d e v H' B' M' f hN kp => k1 d e v H' B' M' ((Fr.of g2).trans f) hN ((Kept.ex (row := st'.row) g2.ex).trans kp fun _ h => h), fun c e H' B' M' f => k2 c e H' B' M' ((Fr.of g2).trans f)⟩
theorem t_met {R : NbS → List PyData → (PyData ⊕ Addr) → NbS → Prop} (nf : NoF m) (hs : Ev ta σ H (.ref nb)) (hN : NB K T M B H nb st) (hG : NbG st) (ha : EvBs K targs σ B H ds) (hf : R st ds o st')
    (k1 : ∀ d, o = .inl d → ∀ v H' B' M', Fr M M' B H H' B' → NB K T M' B' H' nb st' → Dt K B' v d → Q v H') (k2 : ∀ c, o = .inr c → ∀ H' B' M', Fr M M' B H H' B' → NB K T M' B' H' nb st' → E σ (.ref c) none H') : tMet T.N m (spNb K T R) E ta targs σ H Q :=
  t_metK nf hs hN hG ha hf (fun d e v H' B' M' f hN _ => k1 d e v H' B' M' f hN) k2
theorem t_q {R : NbS → List PyData → (PyData ⊕ Addr) → Prop} (nf : NoF m) (hs : Ev ta σ H (.ref nb)) (hN : NB K T M B H nb st) (hG : NbG st) (ha : EvBs K targs σ B H ds) (hf : R st ds o)
    (k1 : ∀ d, o = .inl d → Rt K B H d Q) (k2 : ∀ c, o = .inr c → ∀ H', Ex H H' → E σ (.ref c) none H') : tMet T.N m (spNq K T R) E ta targs σ H Q := by
  refine hs H (Ex.refl H) _ fun H1 e1 => ?_
  obtain ⟨dn, c, r, kvs, ad, L⟩ := hN
  refine ⟨nb, dn, _, rfl, e1 _ _ L.hn, nf _ _ _, ?_⟩
  refine ha H1 e1 _ fun vs H2 Hd g hds => ?_
  have g2 : Gr B H H2 Hd := g.after e1
  exact ⟨M, Hd, nb, st, vs, ds, o, rfl, (L.gr g2).toNB, hG, hds, hf, fun d e v H' B' f => k1 d e v H' B' (g2.seq f), fun c e H' e' => k2 c e H' (g2.ex.trans e')⟩
theorem evb_q {R : NbS → List PyData → (PyData ⊕ Addr) → Prop} (nf : NoF m) (hs : Ev ta σ H (.ref nb)) (hN : NB K T M B H nb st) (hG : NbG st) (ha : EvBs K targs σ B H ds) (hf : R st ds (.inl d)) : EvB K (tMet T.N m (spNq K T R) E ta targs) σ B H d := fun H1 e Q q =>
  t_q nf (fun H2 e2 => hs H2 (e.trans e2)) (hN.ex e) hG (fun H2 e2 => ha H2 (e.trans e2)) hf (fun d' e' => by cases e'; exact q) fun c e' => by cases e'
end
end LC

namespace LC
open PySem PySem.Spec PyProof.Rows L2 Evl
section
variable {K : Frag} {T : NbC} {M : Addr → Prop} {B H : Hp} {nb : Addr} {st st' : NbS} {σ : L2.St} {ta te : TE} {targs : TA} {ds : List PyData} {d : PyData} {o : PyData ⊕ Addr} {E : L2.St → XK} {m : Str} {D : Ends} {Q : VK} {i : Nat}
theorem s_q {R : NbS → List PyData → (PyData ⊕ Addr) → Prop} (nf : NoF m) (hs : Ev ta σ H (.ref nb)) (hN : NB K T M B H nb st) (hG : NbG st) (ha : EvBs K targs σ B H ds) (hf : R st ds o)
    (k1 : ∀ d, o = .inl d → ∀ H', Ex H H' → D.nx σ H') (k2 : ∀ c, o = .inr c → ∀ H', Ex H H' → E σ (.ref c) none H') : tDrop (tMet T.N m (spNq K T R) E ta targs) D σ H := t_q (Q := fun _ H' => D.nx σ H') nf hs hN hG ha hf (fun d e v H' B' g _ => k1 d e H' g.ex) k2
theorem s_metD {R : NbS → List PyData → (PyData ⊕ Addr) → NbS → Prop} (nf : NoF m) (hs : Ev ta σ H (.ref nb)) (hN : NB K T M B H nb st) (hG : NbG st) (ha : EvBs K targs σ B H ds) (hf : R st ds o st')
    (k1 : ∀ d, o = .inl d → ∀ v H' B' M', Fr M M' B H H' B' → NB K T M' B' H' nb st' → Dt K B' v d → D.nx σ H') (k2 : ∀ c, o = .inr c → ∀ H' B' M', Fr M M' B H H' B' → NB K T M' B' H' nb st' → E σ (.ref c) none H') : tDrop (tMet T.N m (spNb K T R) E ta targs) D σ H := t_met (Q := fun _ H' => D.nx σ H') nf hs hN hG ha hf k1 k2
theorem s_metA {R : NbS → List PyData → (PyData ⊕ Addr) → NbS → Prop} (nf : NoF m) (hs : Ev ta σ H (.ref nb)) (hN : NB K T M B H nb st) (hG : NbG st) (ha : EvBs K targs σ B H ds) (hf : R st ds o st')
    (k1 : ∀ d, o = .inl d → ∀ v H' B' M', Fr M M' B H H' B' → NB K T M' B' H' nb st' → Dt K B' v d → D.nx (σ.set i (some v)) H') (k2 : ∀ c, o = .inr c → ∀ H' B' M', Fr M M' B H H' B' → NB K T M' B' H' nb st' → E σ (.ref c) none H') : tAsg (tMet T.N m (spNb K T R) E ta targs) (gName i) D σ H := t_met (Q := fun v H' => D.nx (σ.set i (some v)) H') nf hs hN hG ha hf k1 k2
end
section
variable {K : Frag} {T : NbC} {M : Addr → Prop} {B H H' : Hp} {nb dn c r : Addr} {st : NbS} {kvs : List (Key × V)} {ad : Nat → Addr} {σ : L2.St} {ta ty te : TE} {n : Nat}
theorem NbL.lenE (L : NbL K T M B H nb st dn c r kvs ad) (U : NbT K T) (h : Ev ta σ H (.ref nb)) : Ev (tCB (rLenU K) (tCons (tFld K ta "row") tNil)) σ H (.int (st.row.length : Int)) :=
  ev_is (ev_lenL (K := K) (evd_of (L.rowE U h) L.dtRow)) (by rw [List.length_map])
theorem NbL.ne_cr (L : NbL K T M B H nb st dn c r kvs ad) : c ≠ r := ne_of L.hc L.hr fun z => by cases z
theorem NbL.ne_nc (L : NbL K T M B H nb st dn c r kvs ad) : nb ≠ c := ne_of L.hn L.hc fun z => by cases z
theorem NbL.ne_nr (L : NbL K T M B H nb st dn c r kvs ad) : nb ≠ r := ne_of L.hn L.hr fun z => by cases z
theorem NbL.ne_na (L : NbL K T M B H nb st dn c r kvs ad) (hn : n ∈ st.row) : ad n ≠ nb := by
  obtain ⟨dx, lv, rv, h1, _⟩ := L.cells n hn
  refine ne_of h1 L.hn fun z => ?_
  injection z with _ _ z
  have z := congrArg List.length z
  simp at z
theorem NbL.ne_ca (L : NbL K T M B H nb st dn c r kvs ad) (hn : n ∈ st.row) : ad n ≠ c := by
  obtain ⟨dx, lv, rv, h1, _⟩ := L.cells n hn
  exact ne_of h1 L.hc fun z => by cases z
theorem NbL.ne_ra (L : NbL K T M B H nb st dn c r kvs ad) (hn : n ∈ st.row) : ad n ≠ r := by
  obtain ⟨dx, lv, rv, h1, _⟩ := L.cells n hn
  exact ne_of h1 L.hr fun z => by cases z
end
abbrev rIns : V → List V → Hp → VK → Prop := fun x vs H Q => ∃ (l : Addr) (xs : List V) (i : Int) (y : V), x = .ref l ∧ vs = [.int i, y] ∧ H l = some (.lst xs) ∧ xs.length < sizeLine ∧ 0 ≤ i ∧ i < 2 ^ 63 ∧ Q .non (upd H l (.lst (xs.take i.toNat ++ [y] ++ xs.drop i.toNat)))
theorem kIns {X : Cx} : MtR X "list.insert" rIns := mt_insert
theorem s_ins {K : Frag} {σ : L2.St} {H : Hp} {ta t1 t2 : TE} {D : Ends} {l : Addr} {xs : List V} {i : Int} {y : V} (hl : H l = some (.lst xs)) (ha : Ev ta σ H (.ref l)) (h1 : Ev t1 σ H (.int i)) (h2 : Ev t2 σ H y) (hz : xs.length < 100000) (h0 : 0 ≤ i) (h3 : i < 2 ^ 63)
    (k : ∀ H1, Ex H H1 → D.nx σ (upd H1 l (.lst (xs.take i.toNat ++ [y] ++ xs.drop i.toNat)))) : tDrop (tBM K "list" rIns ta (tCons t1 (tCons t2 tNil))) D σ H :=
  ha H (Ex.refl H) _ fun H1 e1 => ⟨Or.inl ⟨rfl, xs, sq_of (e1 l _ hl)⟩, h1 H1 e1 _ fun H2 e2 => h2 H2 (e1.trans e2) _ fun H3 e3 => ⟨l, xs, i, y, rfl, rfl, ((e1.trans e2).trans e3) _ _ hl, sz_lt hz, h0, h3, k H3 ((e1.trans e2).trans e3)⟩⟩
/-! ### put -/
def newCell (src : Src) : CellS := ⟨src, 0, false, none⟩
def putS (st : NbS) (i : Nat) (src : Src) : NbS := ⟨st.row.take i ++ [st.after] ++ st.row.drop i, fun n => if n = st.after then newCell src else st.cell n, st.after + 1⟩
def R_put (cP cS cF : Addr) (st : NbS) (ds : List PyData) (o : PyData ⊕ Addr) (st' : NbS) : Prop := ∃ d s, ds = [d, s] ∧ okD s = true ∧
  ((isWithin d 0 (st.row.length : Int) = false ∧ o = .inr cP ∧ st' = st) ∨ (isWithin d 0 (st.row.length : Int) = true ∧ isSource s = false ∧ o = .inr cS ∧ st' = st) ∨
   (isWithin d 0 (st.row.length : Int) = true ∧ isSource s = true ∧ st.row.length = 30 ∧ o = .inr cF ∧ st' = st) ∨
   (∃ (i : Nat) (src : Src), d = .int (i : Int) ∧ i ≤ st.row.length ∧ s = encS src ∧ goodS src = true ∧ st.row.length < 30 ∧ o = .inl (.int (st.after : Int)) ∧ st' = putS st i src))
theorem mem_putS {st : NbS} {i n : Nat} {src : Src} : n ∈ (putS st i src).row ↔ n = st.after ∨ n ∈ st.row := by
  unfold putS
  simp only [List.mem_append, List.mem_singleton]
  constructor
  · rintro ((h | h) | h)
    · exact .inr (List.mem_of_mem_take h)
    · exact .inl h
    · exact .inr (List.mem_of_mem_drop h)
  · rintro (h | h)
    · exact .inl (.inr h)
    · rw [← List.take_append_drop i st.row] at h
      rcases List.mem_append.mp h with h | h
      · exact .inl (.inl h)
      · exact .inr h
theorem NbG.put {st : NbS} (G : NbG st) {i : Nat} {src : Src} (hg : goodS src = true) (hl : st.row.length < 30) (hf : st.after < 5000) : NbG (putS st i src) := by
  have hna : st.after ∉ st.row := fun h => by have := G.lt _ h; omega
  refine ⟨fun n hn => ?_, fun n hn => ?_, ?_, ?_, by show st.after + 1 ≤ 5000; omega, fun n hn => ?_⟩
  · show goodS (if n = st.after then newCell src else st.cell n).src = true
    rcases mem_putS.mp hn with h | h
    · rw [if_pos h]; exact hg
    · rw [if_neg (fun z : n = st.after => hna (by rw [← z]; exact h))]; exact G.good n h
  · show n < st.after + 1
    rcases mem_putS.mp hn with h | h
    · omega
    · have := G.lt n h; omega
  · show (st.row.take i ++ [st.after] ++ st.row.drop i).Nodup
    have hnd := G.nd
    rw [← List.take_append_drop i st.row] at hnd
    rw [List.append_assoc, List.nodup_append] at *
    refine ⟨hnd.1, ?_, fun a ha b hb => ?_⟩
    · rw [List.nodup_append]
      refine ⟨by simp, hnd.2.1, fun a ha b hb => ?_⟩
      rw [List.mem_singleton] at ha
      rw [ha]
      exact fun z => hna (List.mem_of_mem_drop (z ▸ hb))
    · rcases List.mem_append.mp hb with hb | hb
      · rw [List.mem_singleton] at hb
        rw [hb]
        exact fun z => hna (List.mem_of_mem_take (z ▸ ha))
      · exact hnd.2.2 a ha b hb
  · show (st.row.take i ++ [st.after] ++ st.row.drop i).length ≤ 30
    rw [List.length_append, List.length_append, List.length_take, List.length_drop, List.length_singleton]
    omega
  · show (if n = st.after then newCell src else st.cell n).count ≤ 5000
    rcases mem_putS.mp hn with h | h
    · rw [if_pos h]; exact Nat.zero_le _
    · rw [if_neg (fun z : n = st.after => hna (by rw [← z]; exact h))]; exact G.cnt n h
theorem NbL.put {K : Frag} {T : NbC} {M : Addr → Prop} {B H H' : Hp} {nb dn c r x dx : Addr} {st : NbS} {kvs : List (Key × V)} {ad : Nat → Addr} {v : V} {i : Nat} {src : Src} (L : NbL K T M B H nb st dn c r kvs ad) (G : NbG st) (hi : i ≤ st.row.length)
    (hx : H x = none) (hv : Dt K B v (encS src)) (h1 : H' nb = some (.ins T.N dn [("cells", .ref c), ("row", .ref r), ("after", .int ((st.after : Int) + 1))])) (h2 : H' c = some (.dK (putK kvs (.inl (st.after : Int)) (.ref x))))
    (h3 : H' r = some (.lst ((st.row.map fun n : Nat => V.int (n : Int)).take i ++ [V.int (st.after : Int)] ++ (st.row.map fun n : Nat => V.int (n : Int)).drop i)))
    (h4 : H' x = some (.ins T.C dx [("lines", v), ("count", .int 0), ("struck", .bl false), ("record", .non)])) (h5 : ∀ a o, a ≠ nb → a ≠ c → a ≠ r → H a = some o → H' a = some o) :
    Fr M (fun a => M a ∨ a = x) B H H' B ∧ NbL K T (fun a => M a ∨ a = x) B H' nb (putS st i src) dn c r (putK kvs (.inl (st.after : Int)) (.ref x)) (fun n => if n = st.after then x else ad n) := by
  have hna : st.after ∉ st.row := fun h => by have := G.lt _ h; omega
  have bn := (L.m _ L.mn).1
  have bc := (L.m _ L.mc).1
  have br := (L.m _ L.mr).1
  have x' : Ex B H' := fun a o h => h5 a o (fun z => by rw [z, bn] at h; cases h) (fun z => by rw [z, bc] at h; cases h) (fun z => by rw [z, br] at h; cases h) (L.x _ _ h)
  have bx : B x = none := fresh_back L.x hx
  have stay : ∀ a, H a ≠ none → H' a ≠ none := fun a h => by
    by_cases e1 : a = nb
    · rw [e1, h1]; exact fun z => nomatch z
    by_cases e2 : a = c
    · rw [e2, h2]; exact fun z => nomatch z
    by_cases e3 : a = r
    · rw [e3, h3]; exact fun z => nomatch z
    cases q : H a with
    | none => exact absurd q h
    | some o => rw [h5 a o e1 e2 e3 q]; exact fun z => nomatch z
  have nx : ∀ n ∈ st.row, ad n ≠ x := fun n hn z => (L.m _ (L.mad n hn)).2 (by rw [z]; exact hx)
  refine ⟨⟨fun a o h n => h5 a o (fun z => n (z ▸ L.mn)) (fun z => n (z ▸ L.mc)) (fun z => n (z ▸ L.mr)) h, Ex.refl B, x', fun a h _ => h, fun a h => h.imp id fun z => by rw [z]; exact hx, fun a h => .inl h, stay⟩, x', fun a h => ?_, h1, h2, ?_, .inl L.mn, .inl L.mc, .inl L.mr, fun n hn => ?_, fun j hj => ?_, ?_, fun n hn => ?_, fun n hn => ?_, fun n hn m hm e => ?_⟩
  · rcases h with h | h
    · exact ⟨(L.m a h).1, stay a (L.m a h).2⟩
    · rw [h]
      exact ⟨bx, by rw [h4]; exact fun z => nomatch z⟩
  · rw [h3]
    show some (HO.lst _) = some (HO.lst ((st.row.take i ++ [st.after] ++ st.row.drop i).map fun n : Nat => V.int (n : Int)))
    rw [List.map_append, List.map_append, List.map_take, List.map_drop] <;> rfl
  · rw [valV_put]
    rcases mem_putS.mp hn with h | h
    · rw [if_pos (by rw [h]), if_pos h]
    · have hne : n ≠ st.after := fun z => hna (z ▸ h)
      rw [if_neg (fun z => hne (by have := Sum.inl.inj z; omega)), if_neg hne]
      exact L.kin n h
  · rw [valV_put, if_neg (fun z => hj st.after (mem_putS.mpr (.inl rfl)) (Sum.inl.inj z).symm)]
    exact L.kout j fun n hn => hj n (mem_putS.mpr (.inr hn))
  · have h1 := length_putK kvs (Sum.inl (st.after : Int)) (.ref x)
    have h2 := L.kl
    show _ ≤ st.after + 1
    omega
  · show M (if n = st.after then x else ad n) ∨ (if n = st.after then x else ad n) = x
    rcases mem_putS.mp hn with h | h
    · rw [if_pos h]; exact .inr rfl
    · rw [if_neg (fun z : n = st.after => hna (by rw [← z]; exact h))]; exact .inl (L.mad n h)
  · show CellAt K T B H' (if n = st.after then x else ad n) (if n = st.after then newCell src else st.cell n)
    rcases mem_putS.mp hn with h | h
    · rw [if_pos h, if_pos h]
      exact ⟨dx, v, .non, h4, hv, rfl⟩
    · have hne : n ≠ st.after := fun z => hna (z ▸ h)
      rw [if_neg hne, if_neg hne]
      exact (L.cells n h).mono (Ex.refl B) fun o ho => h5 _ o (L.ne_na h) (L.ne_ca h) (L.ne_ra h) ho
  · rcases mem_putS.mp hn with h | h <;> rcases mem_putS.mp hm with h' | h'
    · omega
    · have hne : m ≠ st.after := fun z => hna (z ▸ h')
      rw [if_pos h, if_neg hne] at e
      exact absurd e.symm (nx m h')
    · have hne : n ≠ st.after := fun z => hna (z ▸ h)
      rw [if_neg hne, if_pos h'] at e
      exact absurd e (nx n h)
    · have hne : n ≠ st.after := fun z => hna (z ▸ h)
      have hne' : m ≠ st.after := fun z => hna (z ▸ h')
      rw [if_neg hne, if_neg hne'] at e
      exact L.inj n h m h' e
end LC
namespace LC
open PySem PySem.Spec PyProof.Rows L2 Evl
/-! ### a cell written -/
def setS (st : NbS) (n : Nat) (c : CellS) : NbS := ⟨st.row, fun m => if m = n then c else st.cell m, st.after⟩
theorem NbL.setCell {K : Frag} {T : NbC} {M : Addr → Prop} {B H H' : Hp} {nb dn c r dx : Addr} {st : NbS} {kvs : List (Key × V)} {ad : Nat → Addr} {lv rv : V} {n : Nat} {cs : CellS} (L : NbL K T M B H nb st dn c r kvs ad) (hn : n ∈ st.row)
    (h1 : H' (ad n) = some (.ins T.C dx [("lines", lv), ("count", .int (cs.count : Int)), ("struck", .bl cs.struck), ("record", rv)])) (h2 : Dt K B lv (encS cs.src)) (h3 : RecAt K T B rv cs.recd) (h5 : ∀ a o, a ≠ ad n → H a = some o → H' a = some o) :
    Fr M M B H H' B ∧ NbL K T M B H' nb (setS st n cs) dn c r kvs ad := by
  have bn := (L.m _ (L.mad n hn)).1
  have x' : Ex B H' := fun a o h => h5 a o (fun z => by rw [z, bn] at h; cases h) (L.x _ _ h)
  have stay : ∀ a, H a ≠ none → H' a ≠ none := fun a h => by
    by_cases e1 : a = ad n
    · rw [e1, h1]; exact fun z => nomatch z
    cases q : H a with
    | none => exact absurd q h
    | some o => rw [h5 a o e1 q]; exact fun z => nomatch z
  refine ⟨⟨fun a o h m => h5 a o (fun z => m (by rw [z]; exact L.mad n hn)) h, Ex.refl B, x', fun a h _ => h, fun a h => .inl h, fun a h => h, stay⟩, x', fun a h => ⟨(L.m a h).1, stay a (L.m a h).2⟩, h5 _ _ (L.ne_na hn).symm L.hn, h5 _ _ (L.ne_ca hn).symm L.hc, h5 _ _ (L.ne_ra hn).symm L.hr, L.mn, L.mc, L.mr, L.kin, L.kout, L.kl, L.mad, fun m hm => ?_, L.inj⟩
  show CellAt K T B H' (ad m) (if m = n then cs else st.cell m)
  by_cases e : m = n
  · rw [if_pos e, e]
    exact ⟨dx, lv, rv, h1, h2, h3⟩
  · rw [if_neg e]
    exact (L.cells m hm).mono (Ex.refl B) fun o ho => h5 _ o (fun z => e (L.inj m hm n hn z)) ho
theorem NbG.setS {st : NbS} (G : NbG st) {n : Nat} {c : CellS} (hg : goodS c.src = true) (hc : c.count ≤ 5000) : NbG (setS st n c) := by
  refine ⟨fun m hm => ?_, G.lt, G.nd, G.len, G.few, fun m hm => ?_⟩
  · show goodS (if m = n then c else st.cell m).src = true
    split
    · exact hg
    · exact G.good m hm
  · show (if m = n then c else st.cell m).count ≤ 5000
    split
    · exact hc
    · exact G.cnt m hm
/-! ### what is told of cells -/
def R_version (cB : Addr) (st : NbS) (ds : List PyData) (o : PyData ⊕ Addr) : Prop := ∃ d, ds = [d] ∧ ((isCellD st d = false ∧ o = .inr cB) ∨ ∃ n ∈ st.row, d = .int ((n : Nat) : Int) ∧ o = .inl (.int ((st.cell n).count : Int)))
def R_source (cB : Addr) (st : NbS) (ds : List PyData) (o : PyData ⊕ Addr) : Prop := ∃ d, ds = [d] ∧ ((isCellD st d = false ∧ o = .inr cB) ∨ ∃ n ∈ st.row, d = .int ((n : Nat) : Int) ∧ o = .inl (encS (st.cell n).src))
def R_numbers (st : NbS) (ds : List PyData) (o : PyData ⊕ Addr) : Prop := ds = [] ∧ o = .inl (.list (st.row.map fun n : Nat => PyData.int (n : Int)))
def chC (c : CellS) (src : Src) : CellS := ⟨src, c.count + 1, c.struck, c.recd⟩
def R_change (cC cP cS cB : Addr) (st : NbS) (ds : List PyData) (o : PyData ⊕ Addr) (st' : NbS) : Prop := ∃ d e s, ds = [d, e, s] ∧ okD s = true ∧
  ((isCellD st d = false ∧ o = .inr cC ∧ st' = st) ∨ ∃ n ∈ st.row, d = .int ((n : Nat) : Int) ∧
    ((isWithin e 0 1000000 = false ∧ o = .inr cP ∧ st' = st) ∨ ∃ i : Int, e = .int i ∧ isWithin e 0 1000000 = true ∧
      ((isSource s = false ∧ o = .inr cS ∧ st' = st) ∨ ∃ src, s = encS src ∧ goodS src = true ∧
        ((i ≠ ((st.cell n).count : Int) ∧ o = .inr cB ∧ st' = st) ∨ (i = ((st.cell n).count : Int) ∧ o = .inl (.int ((st.cell n).count + 1 : Int)) ∧ st' = LC.setS st n (chC (st.cell n) src))))))
def R_holds0 (st : NbS) (ds : List PyData) (o : PyData ⊕ Addr) : Prop := ∃ n x, ds = [.int ((n : Nat) : Int), x] ∧ n ∈ st.row ∧ (st.cell n).recd = none ∧ o = .inl (.bool false)
def R_fresh0 (st : NbS) (ds : List PyData) (o : PyData ⊕ Addr) : Prop := ds = [] ∧ (∀ n ∈ st.row, (st.cell n).recd = none) ∧ o = .inl (.list [])
def R_state0 (st : NbS) (ds : List PyData) (o : PyData ⊕ Addr) : Prop := ∃ n : Nat, ds = [.int (n : Int)] ∧ n ∈ st.row ∧ (st.cell n).struck = false ∧ (st.cell n).recd = none ∧ o = .inl (.str "new")
def R_never (st : NbS) (ds : List PyData) (o : PyData ⊕ Addr) : Prop := False
theorem cell_int {st : NbS} {n : Nat} (h : n ∈ st.row) : isCellD st (.int (n : Int)) = true := isCell_iff.mpr ⟨n, h, rfl⟩
theorem spNq_never {P : Program} {w : World} {K : Frag} {mg : Str → Option Value} {base : Heap} {CX : CXT} {k : Nat} {T : NbC} {x q m : Str} {st : Stmt} {f : Addr} {fd : FuncData} {ps : List Str} (F : FnP K x q st f fd) (g : Meth K T.N m f) (b : Binds K fd ps []) : HasM P w K mg base CX k T.N m ps (spNq K T R_never) :=
  ⟨f, fd, ⟨fun vs H Q E z => by obtain ⟨_, _, _, _, _, _, _, _, _, _, _, z, _⟩ := z; exact z.elim, fun A outer s H args us vs Q E hr e0 hb hv z => by obtain ⟨_, _, _, _, _, _, _, _, _, _, _, z, _⟩ := z; exact z.elim⟩, b, g⟩
theorem NbL.base {K : Frag} {T : NbC} {M : Addr → Prop} {B B' H : Hp} {nb dn c r : Addr} {st : NbS} {kvs : List (Key × V)} {ad : Nat → Addr} (L : NbL K T M B H nb st dn c r kvs ad) (x : Ex B B') (x' : Ex B' H) (m : ∀ a, M a → B' a = none) : NbL K T M B' H nb st dn c r kvs ad :=
  ⟨x', fun a h => ⟨m a h, (L.m a h).2⟩, L.hn, L.hc, L.hr, L.mn, L.mc, L.mr, L.kin, L.kout, L.kl, L.mad, fun n hn => (L.cells n hn).mono x fun o h => h, L.inj⟩
theorem ev_isN {σ : L2.St} {H : Hp} {ta : TE} {v : V} (h : Ev ta σ H v) : Ev (tOp (fun x y H Q => y = V.non ∧ Q (.bl (decide (x = .non))) H) ta (tC .non)) σ H (.bl (decide (v = .non))) := fun H1 e Q q => h H1 e _ fun H2 e2 => ⟨rfl, q H2 e2⟩
theorem ev_notN {σ : L2.St} {H : Hp} {ta : TE} {v : V} (h : Ev ta σ H v) : Ev (tOp (fun x y H Q => y = V.non ∧ Q (.bl (!decide (x = .non))) H) ta (tC .non)) σ H (.bl (!decide (v = .non))) := fun H1 e Q q => h H1 e _ fun H2 e2 => ⟨rfl, q H2 e2⟩
end LC

namespace LC
open PySem PySem.Spec PyProof.Rows L2 Evl
/-! ### xs[i] += e, xs[i] = e -/
def rGetL : V → V → Hp → VK → Prop := fun x y H Q => ∃ p xs i v, x = .ref p ∧ y = .int i ∧ H p = some (.lst xs) ∧ 0 ≤ i ∧ xs[i.toNat]? = some v ∧ Q v H
theorem get_list {X : Cx} : PGet X rGetL := by
  intro pins s σ H x y v u Q I rx ry h
  obtain ⟨p, xs, i, z, rfl, rfl, hq, h0, he, q⟩ := h
  cases rx
  obtain ⟨t, rfl⟩ := ry
  obtain ⟨its, r, pl, hz⟩ := I.list (sq_of hq)
  obtain ⟨w, ew, rw'⟩ := r.get he
  have hl := r.length
  have hn := line63
  have hlt : i.toNat < xs.length := (List.getElem?_eq_some_iff.mp he).1
  exact wpAny_getItem_list pl.isList h0 (by omega) (by simpa using ew) ⟨z, H, I, rw', q⟩
section
variable {K : Frag} {σ : L2.St} {H : Hp} {to ti te : TE} {D : Ends} {p : Addr} {xs : List V} {i : Nat}
theorem s_augL {a b : Int} (ho : Ev to σ H (.ref p)) (hi : Ev ti σ H (.int (i : Int))) (hp : H p = some (.lst xs)) (hx : xs[i]? = some (.int a)) (he : Ev te σ H (.int b)) (k : ∀ H1, Ex H H1 → D.nx σ (upd H1 p (.lst (xs.set i (.int (a + b)))))) : tAugS to ti te rGetL (ipI fun i j => i + j) rSetL D σ H := by
  refine ho H (Ex.refl H) _ fun H1 e1 => hi H1 e1 _ fun H2 e2 => ⟨p, xs, (i : Int), .int a, rfl, rfl, e2 _ _ (e1 _ _ hp), by omega, by rw [Int.toNat_natCast]; exact hx, ?_⟩
  have hlt : i < xs.length := (List.getElem?_eq_some_iff.mp hx).1
  refine he H2 (e1.trans e2) _ fun H3 e3 => ⟨a, b, rfl, rfl, p, xs, (i : Int), i, rfl, rfl, ((e1.trans e2).trans e3) _ _ hp, ixN_nat hlt, k H3 ((e1.trans e2).trans e3)⟩
theorem s_setL {v : V} (he : Ev te σ H v) (ho : Ev to σ H (.ref p)) (hi : Ev ti σ H (.int (i : Int))) (hp : H p = some (.lst xs)) (hlt : i < xs.length) (k : ∀ H1, Ex H H1 → D.nx σ (upd H1 p (.lst (xs.set i v)))) : tAsg te (gSub to ti rSetL) D σ H :=
  he H (Ex.refl H) _ fun H1 e1 => ho H1 e1 _ fun H2 e2 => hi H2 (e1.trans e2) _ fun H3 e3 => ⟨p, xs, (i : Int), i, rfl, rfl, ((e1.trans e2).trans e3) _ _ hp, ixN_nat hlt, k H3 ((e1.trans e2).trans e3)⟩
/-- .. of data -/
theorem s_setLB {B : Hp} {d : PyData} (he : EvB K te σ B H d) (ho : Ev to σ H (.ref p)) (hi : Ev ti σ H (.int (i : Int))) (hp : H p = some (.lst xs)) (hlt : i < xs.length) (k : ∀ v H1 Hd, Gr B H H1 Hd → Dt K Hd v d → D.nx σ (upd H1 p (.lst (xs.set i v)))) : tAsg te (gSub to ti rSetL) D σ H :=
  he H (Ex.refl H) _ fun v H1 Hd g hd => ho H1 g.ex _ fun H2 e2 => hi H2 (g.ex.trans e2) _ fun H3 e3 => ⟨p, xs, (i : Int), i, rfl, rfl, ((g.ex.trans e2).trans e3) _ _ hp, ixN_nat hlt, k v H3 Hd (g.more (e2.trans e3)) hd⟩
end
end LC
namespace LC
open PySem PySem.Spec PyProof.Rows L2 Evl
/-! ### a new list of data, which may be changed later on -/
def EvF (K : Frag) (te : TE) (σ : L2.St) (B H : Hp) (ds : List PyData) : Prop := ∀ H1, Ex H H1 → ∀ Q : VK, (∀ p vs H2 Hd, H1 p = none → Gr B H1 H2 Hd → Hd p = none → H2 p = some (.lst vs) → DtAll K Hd vs ds → Q (.ref p) H2) → te σ H1 Q
section
variable {K : Frag} {σ : L2.St} {A B H H' : Hp} {te ta tb tn : TE} {d z : PyData} {targs : TA} {ds : List PyData} {D : Ends}
theorem EvF.toB (h : EvF K te σ B H ds) : EvB K te σ B H (.list ds) := fun H1 e Q q => h H1 e Q fun p vs H2 Hd hp g hd h2 hv => by
  have hu : Ex Hd (upd Hd p (.lst vs)) := Ex.new hd
  refine q (.ref p) H2 (upd Hd p (.lst vs)) ⟨g.ex, g.xd.trans hu, fun a o h => ?_, fun a h0 h1 => ?_⟩ (.lst upd_same (dpAll_ex hu _ _ hv))
  · by_cases z : a = p
    · rw [z, upd_same] at h
      rw [z, ← h]
      exact h2
    · rw [upd_ne z] at h
      exact g.d2 _ _ h
  · have ne : a ≠ p := fun z => h1 (by rw [z]; exact hp)
    rw [upd_ne ne]
    exact g.fr a h0 h1
theorem EvB.wide (h : EvB K te σ B H d) (x : Ex B A) (y : Ex A H) : EvB K te σ A H d := fun H1 e Q q => h H1 e Q fun v H2 Hd g hd => q v H2 _ (g.wide x (y.trans e)) (dp_ex (g.wide_r (y.trans e)) _ _ hd)
theorem evf_lst (h : EvBs K targs σ B H ds) (hl : ds.length ≤ 100000) : EvF K (tLst targs) σ B H ds := fun H1 e _ q =>
  h H1 e _ fun vs H2 Hd g hds => ⟨by rw [dpAll_len hds]; exact sz_of hl, fun p hp => q p vs _ Hd (fresh_back g.ex hp) (g.more (Ex.new hp)) (fresh_back g.d2 hp) upd_same hds⟩
theorem evf_rep {n : Int} (h : EvF K ta σ B H ds) (hn : Ev tn σ H (.int n)) (h0 : 0 ≤ n ∧ n ≤ 1000) (hl : ds.length ≤ 50) : EvF K (tOp (rMulU K) ta tn) σ B H (List.replicate n.toNat ds).flatten := fun H1 e Q q =>
  h H1 e _ fun p vs H2 Hd hp g hd h2 hv => hn H2 (e.trans g.ex) _ fun H3 e3 => .inr (.inl ⟨p, n, vs, rfl, rfl, e3 _ _ h2, by omega, by omega, by
    rw [dpAll_len hv]
    refine sz_of (Nat.le_trans (Nat.mul_le_mul hl (show n.toNat ≤ 1000 by omega)) (by decide)), fun l hl2 => q l _ _ Hd (fresh_back (g.ex.trans e3) hl2) ((g.more e3).more (Ex.new hl2)) (fresh_back (g.d2.trans e3) hl2) upd_same (dpAll_rep hv _)⟩)
theorem lc_turnB {H2 : Hp} {L : Addr} {out : List PyData} {σ2 : L2.St} (e : Ex A H2) (hD : H2 L = none) (p : Acc K A H2 L out H') (hl : out.length < 50000) (he : EvB K te σ2 A H2 z) :
    tYes σ2 H' fun b' H3 => if b' = true then te σ2 H3 fun y H4 => ∃ acc, H4 L = some (.lst acc) ∧ acc.length < sizeLine ∧ Acc K A H2 L (out ++ [z]) (upd H4 L (.lst (acc ++ [y]))) else Acc K A H2 L (out ++ [z]) H3 := by
  show te σ2 H' _
  refine he H' p.1 _ fun y H4 C g hy => ?_
  obtain ⟨acc, h1, h2, h3⟩ := p.push (fresh_back e hD) hD g hy
  exact ⟨acc, h1, sz_lt (by omega), h3⟩
theorem evf_lcR {ta : TA} {n j : Nat} {vs : List Nat} (g : Nat → PyData) (h : EvBs K ta σ B H [.int (n : Int)]) (hz : n ≤ 40000) (hw : ∀ x, wipe ((wipe σ vs).set j (some x)) vs = wipe σ vs)
    (he : ∀ i, i < n → EvB K te ((wipe σ vs).set j (some (.int (i : Int)))) B H (g i)) : EvF K (tLc (iRng1 ta) (gName j) tYes te vs) σ B H ((List.range n).map g) := fun H1 e Q q => h H1 e _ fun ws H2 A gr hd => by
  obtain rfl : ws = [.int (n : Int)] := by
    cases hd with
    | cons h1 h2 => cases h2; rw [dp_int h1]
  refine ⟨n, rfl, by omega, by omega, fun L hL => ?_⟩
  refine lc_range (lo := 0) (n := (n : Int).toNat) (fun i H' => Acc K A H2 L ((List.range i).map g) H') (Acc.nil gr.d2 hL) (fun i H' hi p => ?_) fun H' p => ?_
  · have e0 : (0 : Int) + (i : Int) = (i : Int) := Int.zero_add _
    have hi2 : i < n := by omega
    have key := lc_turnB (te := te) (σ2 := (wipe σ vs).set j (some (.int (i : Int)))) gr.d2 hL p (by rw [List.length_map, List.length_range]; omega) (((he i hi2).ex (e.trans gr.ex)).wide gr.xd gr.d2)
    have e1 : (List.range (i + 1)).map g = (List.range i).map g ++ [g i] := by rw [List.range_succ, List.map_append] <;> rfl
    show gName j (.int ((0 : Int) + (i : Int))) (wipe σ vs) H' _
    rw [e0]
    refine ⟨hw _, ?_⟩
    rw [e1]
    exact key
  · have p2 : Acc K A H2 L ((List.range (n : Int).toNat).map g) H' := p
    rw [Int.toNat_natCast] at p2
    obtain ⟨p1, C, acc, h1, h2, h3, h4, h5, h6⟩ := p2
    exact q L acc H' C (fresh_back gr.ex hL) ⟨gr.ex.trans p1, gr.xd.trans h2, h3, fun a h0 hn => h5 a (gr.fr a h0 hn) (ne_none gr.ex hn)⟩ h4 h1 h6
theorem s_asgF {i : Nat} (h : EvF K te σ B H ds) (k : ∀ p vs H1 Hd, H p = none → Gr B H H1 Hd → Hd p = none → H1 p = some (.lst vs) → DtAll K Hd vs ds → D.nx (σ.set i (some (.ref p))) H1) : tAsg te (gName i) D σ H := h H (Ex.refl H) _ k
theorem s_setLF {to ti : TE} {p : Addr} {xs : List V} {i : Nat} (he : EvF K te σ B H ds) (ho : Ev to σ H (.ref p)) (hi : Ev ti σ H (.int (i : Int))) (hp : H p = some (.lst xs)) (hlt : i < xs.length) (k : ∀ l vs H1 Hd, H l = none → Gr B H H1 Hd → Hd l = none → H1 l = some (.lst vs) → DtAll K Hd vs ds → D.nx σ (upd H1 p (.lst (xs.set i (.ref l))))) : tAsg te (gSub to ti rSetL) D σ H :=
  he H (Ex.refl H) _ fun l vs H1 Hd hl g hd h1 hv => ho H1 g.ex _ fun H2 e2 => hi H2 (g.ex.trans e2) _ fun H3 e3 => ⟨p, xs, (i : Int), i, rfl, rfl, ((g.ex.trans e2).trans e3) _ _ hp, ixN_nat hlt, k l vs H3 Hd hl (g.more (e2.trans e3)) hd ((e2.trans e3) _ _ h1) hv⟩
theorem s_two {i : Nat} {es : List PyData} (h1 : EvF K ta σ B H ds) (h2 : EvF K tb σ B H es) (k : ∀ p l m us vs H1 Hd, H p = none → H l = none → H m = none → l ≠ m → p ≠ l → p ≠ m → Gr B H H1 Hd → Hd p = none → Hd l = none → Hd m = none →
    H1 p = some (.lst [.ref l, .ref m]) → H1 l = some (.lst us) → H1 m = some (.lst vs) → DtAll K Hd us ds → DtAll K Hd vs es → D.nx (σ.set i (some (.ref p))) H1) : tAsg (tLst (tCons ta (tCons tb tNil))) (gName i) D σ H :=
  h1 H (Ex.refl H) _ fun l us H1 A hl g1 hA hu du => h2 H1 g1.ex _ fun m vs H2 C hm g2 hC hv dv => ⟨by rw [sizeLine_eq]; show 2 ≤ _; omega, fun p hp => by
    have g := g1.join g2
    have jn : ∀ a, A a = none → C a = none → join A C a = none := fun a h h' => by unfold join; rw [h]; exact h'
    have cl : C l = none := g2.fr l (fresh_back g1.xd hA) (by rw [hu]; exact fun z => nomatch z)
    have am : A m = none := fresh_back g1.d2 hm
    have h2l : H2 l = some (.lst us) := g2.ex _ _ hu
    have pl : p ≠ l := fun z => by rw [z, h2l] at hp; cases hp
    have pm : p ≠ m := fun z => by rw [z, hv] at hp; cases hp
    have lm : l ≠ m := fun z => by rw [z] at hu; rw [hu] at hm; cases hm
    refine k p l m us vs _ _ (fresh_back g.ex hp) hl (fresh_back g1.ex hm) lm pl pm (g.more (Ex.new hp)) (fresh_back g.d2 hp) (jn l hA cl) (jn m am hC) upd_same ?_ ?_ (dpAll_ex join_l _ _ du) (dpAll_ex (join_r (g1.d2.trans g2.ex) g2.d2) _ _ dv)
    · rw [upd_ne pl.symm]
      exact h2l
    · rw [upd_ne pm.symm]
      exact hv⟩
end
end LC

namespace LC
open PySem PySem.Spec PyProof.Rows L2 Evl
/-! ### a new notebook -/
def st0 : NbS := ⟨[], fun _ => newCell [], 0⟩
theorem NbG.st0 : NbG LC.st0 := ⟨fun _ h => (nomatch h), fun _ h => (nomatch h), List.nodup_nil, Nat.zero_le _, Nat.zero_le _, fun _ h => (nomatch h)⟩
section
variable {K : Frag} {T : NbC} {σ : L2.St} {H B : Hp} {E : XK} {Q : VK} {D : Ends} {i : Nat}
theorem t_new (x : Ex B H) (k : ∀ nb H' M, Ex H H' → NB K T M B H' nb st0 → (∀ a, M a → H a = none) → Q (.ref nb) H') : tMake T.N (spNbI K T) [] E tNil σ H Q := by
  intro p dx hx hdx hne
  refine ⟨p, dx, rfl, upd_same, fun c r H' hc hr ncr h1 h2 h3 h4 => ⟨rfl, ?_⟩⟩
  have nc : c ≠ p := fun z => by rw [z, upd_same] at hc; cases hc
  have nr : r ≠ p := fun z => by rw [z, upd_same] at hr; cases hr
  rw [upd_ne nc] at hc
  rw [upd_ne nr] at hr
  have ncd : c ≠ dx := fun z => by rw [z, upd_same] at hc; cases hc
  have nrd : r ≠ dx := fun z => by rw [z, upd_same] at hr; cases hr
  rw [upd_ne ncd] at hc
  rw [upd_ne nrd] at hr
  have e : Ex H H' := fun a o h => by
    have h1 : a ≠ p := ne_of_none h hx
    have h2 : a ≠ dx := ne_of_none h hdx
    refine h4 a o h1 ?_
    rw [upd_ne h1, upd_ne h2]
    exact h
  have hM : ∀ a, (a = p ∨ a = c ∨ a = r) → H a = none := fun a h => by
    rcases h with h | h | h <;> rw [h] <;> assumption
  refine k p H' (fun a => a = p ∨ a = c ∨ a = r) e ⟨dx, c, r, [], fun _ => 0, x.trans e, fun a h => ⟨fresh_back x (hM a h), ?_⟩, h1, h2, h3, .inl rfl, .inr (.inl rfl), .inr (.inr rfl), fun _ h => (nomatch h), fun _ _ => rfl, Nat.le_refl _, fun _ h => (nomatch h), fun _ h => (nomatch h), fun _ h => (nomatch h)⟩ hM
  rcases h with h | h | h <;> rw [h]
  · rw [h1]; exact fun z => nomatch z
  · rw [h2]; exact fun z => nomatch z
  · rw [h3]; exact fun z => nomatch z
theorem s_new_nb (x : Ex B H) (k : ∀ nb H' M, Ex H H' → NB K T M B H' nb st0 → (∀ a, M a → H a = none) → D.nx (σ.set i (some (.ref nb))) H') : tAsg (tMake T.N (spNbI K T) [] E tNil) (gName i) D σ H := t_new (Q := fun v H' => D.nx (σ.set i (some v)) H') x k
theorem ev_ixV {ta tb : TE} {p : Addr} {xs : List V} {v : V} {j : Nat} (h : Ev ta σ H (.ref p)) (hi : Ev tb σ H (.int (j : Int))) (hp : H p = some (.lst xs)) (hx : xs[j]? = some v) : Ev (tOp (rIx K) ta tb) σ H v := fun H1 e Q q =>
  h H1 e _ fun H2 e2 => hi H2 (e.trans e2) _ fun H3 e3 => .inl ⟨p, xs, (j : Int), v, rfl, rfl, sq_of (((e.trans e2).trans e3) _ _ hp), atI_nat hx, q H3 (e2.trans e3)⟩
end
/-! ### k14: a notebook, versions, what two hands have seen, sources -/
structure I14 (K : Frag) (T : NbC) (M : Addr → Prop) (B H : Hp) (nb : Addr) (st : NbS) (many lim : Nat) (pV pS pR : Addr) (l : Nat → Addr) (aa : Nat → List Int) (vs : List V) : Prop where
  N : NB K T M B H nb st
  G : NbG st
  row : st.row = List.range many
  pl : ∀ n, n < many → (st.cell n).struck = false ∧ (st.cell n).recd = none ∧ (st.cell n).count ≤ lim
  hV : H pV = some (.lst ((List.range many).map fun n => V.int ((st.cell n).count : Int)))
  hS : H pS = some (.lst [.ref (l 0), .ref (l 1)])
  hL : ∀ h, h < 2 → H (l h) = some (.lst ((aa h).map V.int))
  nL : ∀ h, h < 2 → (aa h).length = many
  bL : ∀ h, h < 2 → ∀ x ∈ aa h, 0 ≤ x ∧ x ≤ (lim : Int)
  hR : H pR = some (.lst vs)
  dR : DtAll K B vs ((List.range many).map fun n => encS (st.cell n).src)
  o : ∀ p ∈ [pV, pS, pR, l 0, l 1], B p = none ∧ ¬ M p
  nd : [pV, pS, pR, l 0, l 1].Nodup
section
variable {K : Frag} {T : NbC} {M : Addr → Prop} {B B' H H' : Hp} {nb : Addr} {st : NbS} {many lm : Nat} {pV pS pR : Addr} {l : Nat → Addr} {aa : Nat → List Int} {vs : List V}
theorem I14.there (I : I14 K T M B H nb st many lm pV pS pR l aa vs) : ∀ p ∈ [pV, pS, pR, l 0, l 1], H p ≠ none := fun p hp => by
  simp only [List.mem_cons, List.not_mem_nil, or_false] at hp
  rcases hp with rfl | rfl | rfl | rfl | rfl
  · rw [I.hV]; exact fun z => nomatch z
  · rw [I.hS]; exact fun z => nomatch z
  · rw [I.hR]; exact fun z => nomatch z
  · rw [I.hL 0 (by omega)]; exact fun z => nomatch z
  · rw [I.hL 1 (by omega)]; exact fun z => nomatch z
theorem I14.gr (I : I14 K T M B H nb st many lm pV pS pR l aa vs) (g : Gr B H H' B') : I14 K T M B' H' nb st many lm pV pS pR l aa vs :=
  ⟨I.N.gr g, I.G, I.row, I.pl, g.ex _ _ I.hV, g.ex _ _ I.hS, fun h hh => g.ex _ _ (I.hL h hh), I.nL, I.bL, g.ex _ _ I.hR, dpAll_ex g.xd _ _ I.dR, fun p hp => ⟨g.fr p (I.o p hp).1 (I.there p hp), (I.o p hp).2⟩, I.nd⟩
theorem I14.ex (I : I14 K T M B H nb st many lm pV pS pR l aa vs) (e : Ex H H') : I14 K T M B H' nb st many lm pV pS pR l aa vs := I.gr (Gr.base I.N.x e)
theorem I14.more {lm' : Nat} (I : I14 K T M B H nb st many lm pV pS pR l aa vs) (h : lm ≤ lm') : I14 K T M B H nb st many lm' pV pS pR l aa vs :=
  ⟨I.N, I.G, I.row, fun n hn => ⟨(I.pl n hn).1, (I.pl n hn).2.1, Nat.le_trans (I.pl n hn).2.2 h⟩, I.hV, I.hS, I.hL, I.nL, fun h' hh x hx => ⟨(I.bL h' hh x hx).1, by have := (I.bL h' hh x hx).2; omega⟩, I.hR, I.dR, I.o, I.nd⟩
theorem nb_upd {p : Addr} {u : HO} (h : NB K T M B H nb st) (hb : B p = none) (hm : ¬ M p) (hh : H p ≠ none) : NB K T M B (upd H p u) nb st :=
  h.apart (M := fun x => x = p) (M' := fun x => x = p) (fr_upd h.x rfl hb hh) fun a ha z => hm (z ▸ ha)
/-- seen[hand] = a new list -/
theorem I14.hand (I : I14 K T M B H nb st many lm pV pS pR l aa vs) {p : Addr} {ys : List Int} {hd : Nat} (hh : hd < 2) (hp : H p = some (.lst (ys.map V.int))) (hn : ys.length = many) (hy : ∀ x ∈ ys, 0 ≤ x ∧ x ≤ (lm : Int)) (ho : B p = none ∧ ¬ M p) (hne : p ∉ [pV, pS, pR, l 0, l 1]) :
    I14 K T M B (upd H pS (.lst (([.ref (l 0), .ref (l 1)] : List V).set hd (.ref p)))) nb st many lm pV pS pR (fun h => if h = hd then p else l h) (fun h => if h = hd then ys else aa h) vs := by
  have nd := I.nd
  simp only [List.nodup_cons, List.mem_cons, List.not_mem_nil, or_false, not_or, not_false_eq_true, List.nodup_nil, and_true] at nd
  simp only [List.mem_cons, List.not_mem_nil, or_false, not_or] at hne
  obtain ⟨⟨n1, n2, n3, n4⟩, ⟨n5, n6, n7⟩, ⟨n8, n9⟩, n10⟩ := nd
  obtain ⟨m1, m2, m3, m4, m5⟩ := hne
  have oS := I.o pS (by simp)
  refine ⟨nb_upd I.N oS.1 oS.2 (I.there pS (by simp)), I.G, I.row, I.pl, ?_, ?_, fun h hh' => ?_, fun h hh' => ?_, fun h hh' => ?_, ?_, I.dR, ?_, ?_⟩
  · rw [upd_ne n1]; exact I.hV
  · rw [upd_same]
    have : hd = 0 ∨ hd = 1 := by omega
    rcases this with rfl | rfl <;> rfl
  · show upd H pS _ (if h = hd then p else l h) = some (.lst ((if h = hd then ys else aa h).map V.int))
    by_cases e : h = hd
    · rw [if_pos e, if_pos e, upd_ne m2]; exact hp
    · rw [if_neg e, if_neg e, upd_ne]
      · exact I.hL h hh'
      · have : h = 0 ∨ h = 1 := by omega
        rcases this with rfl | rfl
        · exact Ne.symm n6
        · exact Ne.symm n7
  · show (if h = hd then ys else aa h).length = many
    split
    · exact hn
    · exact I.nL h hh'
  · show ∀ x ∈ (if h = hd then ys else aa h), _
    split
    · exact hy
    · exact I.bL h hh'
  · rw [upd_ne (Ne.symm n5)]; exact I.hR
  · intro q hq
    simp only [List.mem_cons, List.not_mem_nil, or_false] at hq
    rcases hq with rfl | rfl | rfl | hq | hq
    · exact I.o _ (by simp)
    · exact oS
    · exact I.o _ (by simp)
    · rw [hq]
      split
      · exact ho
      · exact I.o _ (by simp)
    · rw [hq]
      split
      · exact ho
      · exact I.o _ (by simp)
  · have : hd = 0 ∨ hd = 1 := by omega
    rcases this with rfl | rfl
    · simp [n1, n2, n4, n5, n7, n9, Ne.symm m1, Ne.symm m2, Ne.symm m3, m5]
    · simp [n1, n2, n3, n5, n6, n8, Ne.symm m1, Ne.symm m2, Ne.symm m3, Ne.symm m4]
theorem zeros {us : List V} : ∀ {n : Nat} {us : List V}, DtAll K H us (List.replicate n [PyData.int 0]).flatten → us = (List.replicate n (0 : Int)).map V.int
  | 0, us, h => by
    cases h
    rfl
  | n + 1, us, h => by
    rw [List.replicate_succ, List.flatten_cons] at h
    cases h with
    | cons h1 h2 =>
      rw [dp_int h1, zeros (us := []) h2, List.replicate_succ, List.map_cons]
theorem ints_inv : ∀ {xs : List Int} {us : List V}, DtAll K H us (xs.map PyData.int) → us = xs.map V.int
  | [], _, h => by cases h; rfl
  | x :: xs, _, h => by
    cases h with
    | cons h1 h2 => rw [dp_int h1, ints_inv h2, List.map_cons]
end
theorem set_range {α : Type} (f : Nat → α) (m n : Nat) (y : α) : ((List.range m).map f).set n y = (List.range m).map fun k => if k = n then y else f k := by
  apply List.ext_getElem?
  intro k
  rw [List.getElem?_set, List.getElem?_map, List.getElem?_map, List.length_map, List.length_range]
  by_cases h : n = k
  · subst h
    rw [if_pos rfl]
    by_cases hm : n < m
    · rw [if_pos hm, List.getElem?_range hm]
      simp
    · rw [if_neg hm, List.getElem?_eq_none (by rw [List.length_range]; omega)]
      rfl
  · rw [if_neg h]
    by_cases hm : k < m
    · rw [List.getElem?_range hm]
      simp [Ne.symm h]
    · rw [List.getElem?_eq_none (by rw [List.length_range]; omega)]
      rfl
theorem dpAll_set {K : Frag} {H : Hp} {v : V} {d : PyData} (hv : Dt K H v d) : ∀ {vs : List V} {ds : List PyData} (n : Nat), DtAll K H vs ds → DtAll K H (vs.set n v) (ds.set n d)
  | _, _, _, .nil => .nil
  | _, _, 0, .cons _ t => .cons hv t
  | _, _, n + 1, .cons h t => .cons h (dpAll_set hv n t)
section
variable {K : Frag} {T : NbC} {M M' : Addr → Prop} {B B1 H H1 H2 : Hp} {nb : Addr} {st : NbS} {many lm n hd : Nat} {pV pS pR : Addr} {l : Nat → Addr} {aa : Nat → List Int} {vs : List V} {v : V} {src : Src}
theorem I14.change (I : I14 K T M B H nb st many lm pV pS pR l aa vs) (hlm : lm < 5000) (f : Fr M M' B H H1 B1) (hN : NB K T M' B1 H1 nb (LC.setS st n (chC (st.cell n) src))) (hg : goodS src = true) (hn : n < many) (hh : hd < 2) (hv : Dt K B1 v (encS src))
    (h1 : H2 pV = some (.lst (((List.range many).map fun n => V.int ((st.cell n).count : Int)).set n (.int ((st.cell n).count + 1 : Int))))) (h2 : H2 pR = some (.lst (vs.set n v))) (h3 : H2 (l hd) = some (.lst (((aa hd).map V.int).set n (.int ((st.cell n).count + 1 : Int)))))
    (h4 : ∀ a o, a ≠ pV → a ≠ pR → a ≠ l hd → H1 a = some o → H2 a = some o) :
    I14 K T M' B1 H2 nb (LC.setS st n (chC (st.cell n) src)) many (lm + 1) pV pS pR l (fun h => if h = hd then (aa h).set n ((st.cell n).count + 1 : Int) else aa h) (vs.set n v) := by
  have nd := I.nd
  simp only [List.nodup_cons, List.mem_cons, List.not_mem_nil, or_false, not_or, not_false_eq_true, List.nodup_nil, and_true] at nd
  obtain ⟨⟨n1, n2, n3, n4⟩, ⟨n5, n6, n7⟩, ⟨n8, n9⟩, n10⟩ := nd
  have o' : ∀ p ∈ [pV, pS, pR, l 0, l 1], B1 p = none ∧ ¬ M' p := fun p hp => ⟨f.nw p (I.o p hp).1 (I.there p hp), fun z => by
    rcases f.mm p z with z | z
    · exact (I.o p hp).2 z
    · exact I.there p hp z⟩
  have hl : l hd ∈ [pV, pS, pR, l 0, l 1] := by
    have : hd = 0 ∨ hd = 1 := by omega
    rcases this with rfl | rfl <;> simp
  have k1 : ∀ p ∈ [pV, pS, pR, l 0, l 1], ∀ o, H p = some o → H1 p = some o := fun p hp o h => f.fr p o h (I.o p hp).2
  have lS : pS ≠ l hd := by
    have : hd = 0 ∨ hd = 1 := by omega
    rcases this with rfl | rfl
    · exact n6
    · exact n7
  have d2 : Ex B1 H2 := fun a o h => h4 a o (fun z => by rw [z, (o' pV (by simp)).1] at h; cases h) (fun z => by rw [z, (o' pR (by simp)).1] at h; cases h) (fun z => by rw [z, (o' _ hl).1] at h; cases h) (f.d2 _ _ h)
  refine ⟨hN.apart (M := fun x => x = pV ∨ x = pR ∨ x = l hd) (M' := fun x => x = pV ∨ x = pR ∨ x = l hd) (B' := B1) (H' := H2) ⟨fun a o h m => h4 a o (fun z => m (.inl z)) (fun z => m (.inr (.inl z))) (fun z => m (.inr (.inr z))) h, Ex.refl _, d2, fun a h _ => h, fun a h => .inl h, fun a h => h, fun a h => ?_⟩ fun a ha z => ?_, I.G.setS hg ?_, I.row, fun m hm => ?_, ?_, ?_, fun h hh' => ?_, fun h hh' => ?_, fun h hh' x hx => ?_, h2, ?_, o', I.nd⟩
  · by_cases e1 : a = pV
    · rw [e1, h1]; exact fun z => nomatch z
    by_cases e2 : a = pR
    · rw [e2, h2]; exact fun z => nomatch z
    by_cases e3 : a = l hd
    · rw [e3, h3]; exact fun z => nomatch z
    cases q : H1 a with
    | none => exact absurd q h
    | some o => rw [h4 a o e1 e2 e3 q]; exact fun z => nomatch z
  · rcases z with rfl | rfl | rfl
    · exact (o' _ (by simp)).2 ha
    · exact (o' _ (by simp)).2 ha
    · exact (o' _ hl).2 ha
  · show (st.cell n).count + 1 ≤ 5000
    have := (I.pl n hn).2.2
    omega
  · show (if m = n then chC (st.cell n) src else st.cell m).struck = false ∧ (if m = n then chC (st.cell n) src else st.cell m).recd = none ∧ (if m = n then chC (st.cell n) src else st.cell m).count ≤ lm + 1
    by_cases e : m = n
    · rw [if_pos e]
      exact ⟨(I.pl n hn).1, (I.pl n hn).2.1, by show (st.cell n).count + 1 ≤ lm + 1; have := (I.pl n hn).2.2; omega⟩
    · rw [if_neg e]
      exact ⟨(I.pl m hm).1, (I.pl m hm).2.1, by have := (I.pl m hm).2.2; omega⟩
  · rw [h1, set_range]
    show some (HO.lst _) = some (HO.lst ((List.range many).map fun m => V.int ((if m = n then chC (st.cell n) src else st.cell m).count : Int)))
    congr 2
    refine List.map_congr_left fun m _ => ?_
    by_cases e : m = n
    · rw [if_pos e, if_pos e] <;> rfl
    · rw [if_neg e, if_neg e]
  · exact h4 _ _ (Ne.symm n1) n5 lS (k1 _ (by simp) _ I.hS)
  · show H2 (l h) = some (.lst ((if h = hd then (aa h).set n ((st.cell n).count + 1 : Int) else aa h).map V.int))
    by_cases e : h = hd
    · rw [if_pos e, e, h3, List.map_set]
    · rw [if_neg e]
      have hm : l h ∈ [pV, pS, pR, l 0, l 1] := by
        have : h = 0 ∨ h = 1 := by omega
        rcases this with rfl | rfl <;> simp
      refine h4 _ _ ?_ ?_ ?_ (k1 _ hm _ (I.hL h hh'))
      · have : h = 0 ∨ h = 1 := by omega
        rcases this with rfl | rfl
        · exact Ne.symm n3
        · exact Ne.symm n4
      · have : h = 0 ∨ h = 1 := by omega
        rcases this with rfl | rfl
        · exact Ne.symm n8
        · exact Ne.symm n9
      · have : (h = 0 ∧ hd = 1) ∨ (h = 1 ∧ hd = 0) := by omega
        rcases this with ⟨rfl, rfl⟩ | ⟨rfl, rfl⟩
        · exact n10
        · exact Ne.symm n10
  · show (if h = hd then (aa h).set n ((st.cell n).count + 1 : Int) else aa h).length = many
    split
    · rw [List.length_set]; exact I.nL h hh'
    · exact I.nL h hh'
  · have hx : x ∈ (if h = hd then (aa h).set n ((st.cell n).count + 1 : Int) else aa h) := hx
    have hc := (I.pl n hn).2.2
    split at hx
    · rcases List.mem_or_eq_of_mem_set hx with hx | hx
      · have := I.bL h hh' x hx
        omega
      · omega
    · have := I.bL h hh' x hx
      omega
  · have := dpAll_set hv n (dpAll_ex f.xd _ _ I.dR)
    rw [set_range] at this
    have e : ((List.range many).map fun k => if k = n then encS src else encS (st.cell k).src) = (List.range many).map fun m => encS (if m = n then chC (st.cell n) src else st.cell m).src := by
      refine List.map_congr_left fun m _ => ?_
      by_cases e : m = n
      · rw [if_pos e, if_pos e] <;> rfl
      · rw [if_neg e, if_neg e]
    rw [e] at this
    exact this
end
theorem s_ifP {σ : L2.St} {H H0 : Hp} {t : TT} {tu tw : TS} {D : Ends} {b : Bool} (P : L2.St → Hp → Prop) (fin : ∀ σ H, P σ H → D.nx σ H) (h : EvT t σ H0 b) (x : Ex H0 H) (k1 : b = true → (∀ σ H, P σ H → D.nx σ H) → ∀ H1, Ex H H1 → tu D σ H1) (k2 : b = false → (∀ σ H, P σ H → D.nx σ H) → ∀ H1, Ex H H1 → tw D σ H1) : tIfS t tu tw D σ H := s_ifD h x (fun e => k1 e fin) fun e => k2 e fin
section
variable {K : Frag} {T : NbC} {M M' : Addr → Prop} {B B' H H' : Hp} {nb : Addr} {st : NbS} {many lm n hd : Nat} {pV pS pR : Addr} {l : Nat → Addr} {aa : Nat → List Int} {vs : List V} {σ : L2.St} {sv : Int}
theorem I14.fr (I : I14 K T M B H nb st many lm pV pS pR l aa vs) (f : Fr M M' B H H' B') (hN : NB K T M' B' H' nb st) : I14 K T M' B' H' nb st many lm pV pS pR l aa vs := by
  have k1 : ∀ p ∈ [pV, pS, pR, l 0, l 1], ∀ o, H p = some o → H' p = some o := fun p hp o h => f.fr p o h (I.o p hp).2
  refine ⟨hN, I.G, I.row, I.pl, k1 _ (by simp) _ I.hV, k1 _ (by simp) _ I.hS, fun h hh => k1 _ ?_ _ (I.hL h hh), I.nL, I.bL, k1 _ (by simp) _ I.hR, dpAll_ex f.xd _ _ I.dR, fun p hp => ⟨f.nw p (I.o p hp).1 (I.there p hp), fun z => ?_⟩, I.nd⟩
  · have : h = 0 ∨ h = 1 := by omega
    rcases this with rfl | rfl <;> simp
  · rcases f.mm p z with z | z
    · exact (I.o p hp).2 z
    · exact I.there p hp z
theorem two_at (hd2 : hd < 2) : ([V.ref (l 0), V.ref (l 1)] : List V)[hd]? = some (V.ref (l hd)) := by
  have : hd = 0 ∨ hd = 1 := by omega
  rcases this with rfl | rfl <;> rfl
theorem I14.seenE (I : I14 K T M B H nb st many lm pV pS pR l aa vs) (hd2 : hd < 2) (hsv : (aa hd)[n]? = some sv) (h1 : σ[6]? = some (some (V.ref pS)) := by rfl) (h2 : σ[8]? = some (some (V.int (hd : Int))) := by rfl) (h3 : σ[9]? = some (some (V.int (n : Int))) := by rfl) : Ev (tOp (rIx K) (tOp (rIx K) (tVar 6) (tVar 8)) (tVar 9)) σ H (.int sv) :=
  ev_ixV (ev_ixV (ev_var h1) (ev_var h2) I.hS (two_at hd2)) (ev_var h3) (I.hL hd hd2) (by rw [List.getElem?_map, hsv]; rfl)
theorem I14.verE (I : I14 K T M B H nb st many lm pV pS pR l aa vs) (hn : n < many) (h1 : σ[5]? = some (some (V.ref pV)) := by rfl) (h3 : σ[9]? = some (some (V.int (n : Int))) := by rfl) : Ev (tOp (rIx K) (tVar 5) (tVar 9)) σ H (.int ((st.cell n).count : Int)) :=
  ev_ixV (ev_var h1) (ev_var h3) I.hV (by rw [List.getElem?_map, List.getElem?_range hn]; rfl)
end
theorem rep_flat (d : PyData) : ∀ n : Nat, (List.replicate n [d]).flatten = (List.range n).map fun _ => d
  | 0 => rfl
  | n + 1 => by
    rw [List.range_succ, List.map_append, ← rep_flat d n, List.replicate_succ', List.flatten_append]
    rfl
end LC

namespace LC
open PySem PySem.Spec PyProof.Rows L2 Evl
/-! ### drop -/
def dropS (st : NbS) (n : Nat) : NbS := ⟨st.row.erase n, st.cell, st.after⟩
theorem valV_drop {κ : Type} [DecidableEq κ] (k j : κ) : ∀ kvs : List (κ × V), valV (dropK kvs k) j = if j = k then none else valV kvs j
  | [] => by
    show valV ([] : List (κ × V)) j = _
    rw [valV_nil]
    split <;> rfl
  | p :: r => by
    have ih := valV_drop k j r
    by_cases h : p.1 = k
    · have e : dropK (p :: r) k = dropK r k := by
        unfold dropK
        rw [List.filter_cons_of_neg (by simp [h])]
      rw [e, ih]
      by_cases hj : j = k
      · rw [if_pos hj, if_pos hj]
      · rw [if_neg hj, if_neg hj, valV_neg (fun z => hj (by rw [← z, h]))]
    · have e : dropK (p :: r) k = p :: dropK r k := by
        unfold dropK
        rw [List.filter_cons_of_pos (by simp [h])]
      rw [e]
      by_cases hp : p.1 = j
      · rw [valV_pos hp, valV_pos hp, if_neg (fun z => h (by rw [hp, z]))]
      · rw [valV_neg hp, valV_neg hp, ih]
theorem length_dropK {κ : Type} [DecidableEq κ] (kvs : List (κ × V)) (k : κ) : (dropK kvs k).length ≤ kvs.length := List.length_filter_le _ _
theorem mem_dropS {st : NbS} (G : NbG st) {n m : Nat} : m ∈ (dropS st n).row ↔ m ≠ n ∧ m ∈ st.row := List.Nodup.mem_erase_iff G.nd
theorem NbG.drop {st : NbS} (G : NbG st) (n : Nat) : NbG (dropS st n) :=
  ⟨fun m hm => G.good m ((mem_dropS G).mp hm).2, fun m hm => G.lt m ((mem_dropS G).mp hm).2, G.nd.erase n, Nat.le_trans (List.length_erase_le) G.len, G.few, fun m hm => G.cnt m ((mem_dropS G).mp hm).2⟩
theorem NbL.drop {K : Frag} {T : NbC} {M : Addr → Prop} {B H H' : Hp} {nb dn c r : Addr} {st : NbS} {kvs : List (Key × V)} {ad : Nat → Addr} {n : Nat} (L : NbL K T M B H nb st dn c r kvs ad) (G : NbG st)
    (h2 : H' c = some (.dK (dropK kvs (.inl (n : Int))))) (h3 : H' r = some (.lst ((st.row.erase n).map fun n : Nat => V.int (n : Int)))) (h5 : ∀ a o, a ≠ c → a ≠ r → H a = some o → H' a = some o) :
    Fr M M B H H' B ∧ NbL K T M B H' nb (dropS st n) dn c r (dropK kvs (.inl (n : Int))) ad := by
  have bc := (L.m _ L.mc).1
  have br := (L.m _ L.mr).1
  have x' : Ex B H' := fun a o h => h5 a o (fun z => by rw [z, bc] at h; cases h) (fun z => by rw [z, br] at h; cases h) (L.x _ _ h)
  have stay : ∀ a, H a ≠ none → H' a ≠ none := fun a h => by
    by_cases e2 : a = c
    · rw [e2, h2]; exact fun z => nomatch z
    by_cases e3 : a = r
    · rw [e3, h3]; exact fun z => nomatch z
    cases q : H a with
    | none => exact absurd q h
    | some o => rw [h5 a o e2 e3 q]; exact fun z => nomatch z
  refine ⟨⟨fun a o h m => h5 a o (fun z => m (by rw [z]; exact L.mc)) (fun z => m (by rw [z]; exact L.mr)) h, Ex.refl B, x', fun a h _ => h, fun a h => .inl h, fun a h => h, stay⟩, x', fun a h => ⟨(L.m a h).1, stay a (L.m a h).2⟩, h5 _ _ L.ne_nc L.ne_nr L.hn, h2, h3, L.mn, L.mc, L.mr, fun m hm => ?_, fun i hi => ?_, Nat.le_trans (length_dropK _ _) L.kl, fun m hm => L.mad m ((mem_dropS G).mp hm).2, fun m hm => ?_, fun m hm m' hm' => L.inj m ((mem_dropS G).mp hm).2 m' ((mem_dropS G).mp hm').2⟩
  · obtain ⟨h1, h2⟩ := (mem_dropS G).mp hm
    rw [valV_drop, if_neg (fun z => h1 (by have := Sum.inl.inj z; omega))]
    exact L.kin m h2
  · rw [valV_drop]
    by_cases e : i = (n : Int)
    · rw [if_pos (by rw [e])]
    · rw [if_neg (fun z => e (Sum.inl.inj z))]
      exact L.kout i fun m hm z => hi m ((mem_dropS G).mpr ⟨fun q => e (by rw [← z, q]), hm⟩) z
  · obtain ⟨h1, h2'⟩ := (mem_dropS G).mp hm
    exact (L.cells m h2').mono (Ex.refl B) fun o ho => h5 _ o (L.ne_ca h2') (L.ne_ra h2') ho
def R_drop (cB : Addr) (st : NbS) (ds : List PyData) (o : PyData ⊕ Addr) (st' : NbS) : Prop := ∃ d, ds = [d] ∧ ((isCellD st d = false ∧ o = .inr cB ∧ st' = st) ∨ ∃ n ∈ st.row, d = .int ((n : Nat) : Int) ∧ o = .inl .none ∧ st' = dropS st n)
section
variable {K : Frag} {σ : L2.St} {H : Hp} {ta td ty te : TE} {D : Ends} {a : Addr}
theorem kRem {X : Cx} : MtR X "list.remove" rRemI := mt_remove
theorem erase_map {α β : Type} (f : α → β) : ∀ (l : List α) (j : Nat), (l.map f).eraseIdx j = (l.eraseIdx j).map f
  | [], _ => rfl
  | _ :: _, 0 => rfl
  | x :: l, j + 1 => by
    show f x :: (l.map f).eraseIdx j = f x :: (l.eraseIdx j).map f
    rw [erase_map f l j]
/-- xs.remove(n) of a list of numbers, each once -/
theorem s_rem {l : Addr} {xs : List Nat} {n : Nat} (hl : H l = some (.lst (xs.map fun n : Nat => V.int (n : Int)))) (hn : n ∈ xs) (nd : xs.Nodup) (ha : Ev ta σ H (.ref l)) (h : Ev te σ H (.int (n : Int))) (k : ∀ H1, Ex H H1 → D.nx σ (upd H1 l (.lst ((xs.erase n).map fun n : Nat => V.int (n : Int))))) :
    tDrop (tBM K "list" rRemI ta (tCons te tNil)) D σ H := ha H (Ex.refl H) _ fun H1 e1 => ⟨Or.inl ⟨rfl, _, sq_of (e1 l _ hl)⟩, h H1 e1 _ fun H2 e2 => by
  have hj : xs.idxOf n < xs.length := List.idxOf_lt_length_iff.mpr hn
  have hg : xs[xs.idxOf n]? = some n := by rw [List.getElem?_eq_getElem hj, List.getElem_idxOf hj]
  refine ⟨l, xs.map fun n : Nat => (n : Int), (n : Int), xs.idxOf n, rfl, rfl, ?_, ?_, fun m hm z => ?_, ?_⟩
  · rw [List.map_map]
    exact (e1.trans e2) _ _ hl
  · rw [List.getElem?_map, hg]
    rfl
  · rw [List.getElem?_map] at z
    obtain ⟨q, hq, hz⟩ := Option.map_eq_some_iff.mp z
    have e : q = n := by omega
    rw [e] at hq
    have hm' : m < xs.length := by omega
    have h1 : xs[m] = n := by
      rw [List.getElem?_eq_getElem hm'] at hq
      exact Option.some.inj hq
    have h2 := nd.idxOf_getElem m hm'
    rw [h1] at h2
    omega
  · rw [erase_map, List.map_map, ← List.erase_eq_eraseIdx_of_idxOf rfl]
    exact k H2 (e1.trans e2)⟩
/-- d.pop(k) -/
theorem s_pop {kvs : List (Key × V)} {k : Key} {v : V} (ha : H a = some (.dK kvs)) (hd : Ev td σ H (.ref a)) (hy : Ev ty σ H (kV k)) (hv : valV kvs k = some v) (kk : ∀ H1, Ex H H1 → D.nx σ (upd H1 a (.dK (dropK kvs k)))) : tDrop (tDPop1 td ty) D σ H :=
  hd H (Ex.refl H) _ fun H1 e1 => ⟨a, rfl, .inl ⟨kvs, .inl (e1 _ _ ha)⟩, hy H1 e1 _ fun H2 e2 => ⟨kvs, k, v, (e1.trans e2) _ _ ha, rfl, hv, kk H2 (e1.trans e2)⟩⟩
end
end LC

namespace LC
open PySem PySem.Spec PyProof.Rows L2 Evl
section
variable {K : Frag} {σ : L2.St} {H : Hp} {ta te : TE}
theorem ev_index {l : Addr} {xs : List Nat} {n : Nat} (ha : Ev ta σ H (.ref l)) (hl : H l = some (.lst (xs.map fun n : Nat => V.int (n : Int)))) (hn : n ∈ xs) (nd : xs.Nodup) (h : Ev te σ H (.int (n : Int))) : Ev (tBM K "list" (rIndex K) ta (tCons te tNil)) σ H (.int (xs.idxOf n : Int)) := fun H1 e Q q =>
  ha H1 e _ fun H2 e2 => ⟨Or.inl ⟨rfl, _, sq_of (e2 _ _ (e _ _ hl))⟩, h H2 (e.trans e2) _ fun H3 e3 => by
    have hj : xs.idxOf n < xs.length := List.idxOf_lt_length_iff.mpr hn
    have hg : xs[xs.idxOf n]? = some n := by rw [List.getElem?_eq_getElem hj, List.getElem_idxOf hj]
    refine ⟨l, xs.map fun n : Nat => V.int (n : Int), .int (n : Int), xs.idxOf n, .int (n : Int), rfl, rfl, sq_of (((e.trans e2).trans e3) _ _ hl), rfl, ?_, ?_, ?_, fun m z hm hz => ?_, q H3 (e2.trans e3)⟩
    · rw [List.all_eq_true]
      intro v hv
      obtain ⟨m, _, rfl⟩ := List.mem_map.mp hv
      rfl
    · rw [List.getElem?_map, hg]
      rfl
    · exact decide_eq_true rfl
    · rw [List.getElem?_map] at hz
      obtain ⟨w, hw, rfl⟩ := Option.map_eq_some_iff.mp hz
      refine decide_eq_false fun z => ?_
      have hm' : m < xs.length := by omega
      have h1 : xs[m] = w := by
        rw [List.getElem?_eq_getElem hm'] at hw
        exact Option.some.inj hw
      have h2 := nd.idxOf_getElem m hm'
      have e : w = n := by omega
      rw [h1, e] at h2
      omega⟩
end
section
variable {K : Frag} {T : NbC} {M : Addr → Prop} {B H : Hp} {nb : Addr} {st st' : NbS} {σ : L2.St} {ta tb te : TE} {targs : TA} {ds es : List PyData} {d : PyData} {o : PyData ⊕ Addr} {E : L2.St → XK} {m : Str} {D : Ends} {i : Nat}
theorem evb_slT {lo hi : TO} {l h : Option Int} (ha : EvB K ta σ B H (.tuple ds)) (hl : EvO lo σ H l) (hh : EvO hi σ H h) : EvB K (tSl (rSlU K) ta lo hi) σ B H (.tuple (cutD ds l h)) := fun H1 e Q q =>
  ha H1 e _ fun v H2 A g hd => hl H2 (e.trans g.ex) _ fun H3 e3 => hh H3 ((e.trans g.ex).trans e3) _ fun H4 e4 => by
    obtain ⟨a, xs, rfl, hs, hall⟩ := dp_tup hd
    have hl := dpAll_len hall
    have g4 : Gr B H1 H4 A := g.more (e3.trans e4)
    refine .inr (.inl ⟨a, xs, rfl, ex_t g4.d2 hs, fun hw => ?_, fun hw p hp => ?_⟩)
    · rw [hl] at hw
      refine q _ H4 A g4 ?_
      rw [cut_whole hw]
      exact .tup hs hall
    · exact q _ _ _ (g4.new _ hp) (.tup (st_of upd_same) (dpAll_ex (Ex.new (fresh_back g4.d2 hp)) _ _ (cutV_dp hall l h)))
theorem s_fldB {tv : TE} {a C dx : Addr} {fs : List (Str × V)} {f : Str} (hv : EvB K tv σ B H d) (ha : Ev ta σ H (.ref a)) (ho : H a = some (.ins C dx fs)) (c : Cls K C) (n : NoAttr K C f) (hl : fs.length < 1000) (kk : ∀ v H2 Hd, Gr B H H2 Hd → Dt K Hd v d → D.nx σ (upd H2 a (.ins C dx (putF f v fs)))) : sFld K ta tv f D σ H :=
  hv H (Ex.refl H) _ fun v H1 Hd g hd => ha H1 g.ex _ fun H2 e2 => ⟨a, C, dx, fs, rfl, e2 _ _ (g.ex _ _ ho), c, n, hl, kk v H2 Hd (g.more e2) hd⟩
theorem s_metAK {R : NbS → List PyData → (PyData ⊕ Addr) → NbS → Prop} (nf : NoF m) (hs : Ev ta σ H (.ref nb)) (hN : NB K T M B H nb st) (hG : NbG st) (ha : EvBs K targs σ B H ds) (hf : R st ds o st')
    (k1 : ∀ d, o = .inl d → ∀ v H' B' M', Fr M M' B H H' B' → NB K T M' B' H' nb st' → Kept H H' nb st'.row → Dt K B' v d → D.nx (σ.set i (some v)) H') (k2 : ∀ c, o = .inr c → ∀ H' B' M', Fr M M' B H H' B' → NB K T M' B' H' nb st' → E σ (.ref c) none H') : tAsg (tMet T.N m (spNb K T R) E ta targs) (gName i) D σ H := t_metK (Q := fun v H' => D.nx (σ.set i (some v)) H') nf hs hN hG ha hf k1 k2
end
theorem s_ifN {σ : L2.St} {H H0 : Hp} {t : TT} {tu : TS} {D : Ends} {b : Bool} (h : EvT t σ H0 b) (x : Ex H0 H) (k1 : b = true → ∀ H1, Ex H H1 → tu D σ H1) (k2 : b = false → ∀ H1, Ex H H1 → D.nx σ H1) : tIfS t tu tNext D σ H := s_ifD h x k1 k2
/-! ### cut, join -/
def cutS (st : NbS) (n k : Nat) : NbS := setS (setS (putS st (st.row.idxOf n + 1) ((st.cell n).src.drop k)) st.after ⟨(st.cell n).src.drop k, 0, (st.cell n).struck, none⟩) n ⟨(st.cell n).src.take k, (st.cell n).count + 1, (st.cell n).struck, (st.cell n).recd⟩
def R_cut (cC cP cF : Addr) (st : NbS) (ds : List PyData) (o : PyData ⊕ Addr) (st' : NbS) : Prop := ∃ d e, ds = [d, e] ∧
  ((isCellD st d = false ∧ o = .inr cC ∧ st' = st) ∨ ∃ n ∈ st.row, d = .int ((n : Nat) : Int) ∧
    ((isWithin e 0 ((st.cell n).src.length : Int) = false ∧ o = .inr cP ∧ st' = st) ∨ ∃ k : Nat, e = .int (k : Int) ∧ k ≤ (st.cell n).src.length ∧
      ((st.row.length = 30 ∧ o = .inr cF ∧ st' = st) ∨ (st.row.length < 30 ∧ st.after < 5000 ∧ o = .inl (.int (st.after : Int)) ∧ st' = cutS st n k))))
def joinS (st : NbS) (n m : Nat) : NbS := dropS (setS st n ⟨(st.cell n).src ++ (st.cell m).src, (st.cell n).count + 1, (st.cell n).struck, (st.cell n).recd⟩) m
def nextOf (st : NbS) (n : Nat) : List Nat := (st.row.drop (st.row.idxOf n + 1)).take 1
def R_join (cC cX cS : Addr) (st : NbS) (ds : List PyData) (o : PyData ⊕ Addr) (st' : NbS) : Prop := ∃ d e, ds = [d, e] ∧
  ((isCellD st d = false ∧ o = .inr cC ∧ st' = st) ∨ (isCellD st d = true ∧ isCellD st e = false ∧ o = .inr cC ∧ st' = st) ∨ ∃ n ∈ st.row, ∃ m ∈ st.row, d = .int ((n : Nat) : Int) ∧ e = .int ((m : Nat) : Int) ∧
    (((nextOf st n ≠ [m] ∨ (st.cell n).struck ≠ (st.cell m).struck) ∧ o = .inr cX ∧ st' = st) ∨ (nextOf st n = [m] ∧ (st.cell n).struck = (st.cell m).struck ∧
      ((8 < (st.cell n).src.length + (st.cell m).src.length ∧ o = .inr cS ∧ st' = st) ∨ ((st.cell n).src.length + (st.cell m).src.length ≤ 8 ∧ (st.cell n).count < 5000 ∧ o = .inl .none ∧ st' = joinS st n m)))))
theorem goodS_drop {src : Src} (h : goodS src = true) (k : Nat) : goodS (src.drop k) = true := by
  unfold goodS at h ⊢
  rw [Bool.and_eq_true] at h ⊢
  refine ⟨decide_eq_true ?_, ?_⟩
  · have := of_decide_eq_true h.1
    rw [List.length_drop]
    omega
  · rw [List.all_eq_true] at *
    exact fun r hr => h.2 r (List.mem_of_mem_drop hr)
theorem goodS_take {src : Src} (h : goodS src = true) (k : Nat) : goodS (src.take k) = true := by
  unfold goodS at h ⊢
  rw [Bool.and_eq_true] at h ⊢
  refine ⟨decide_eq_true ?_, ?_⟩
  · have := of_decide_eq_true h.1
    rw [List.length_take]
    omega
  · have h2 := List.all_eq_true.mp h.2
    rw [List.all_eq_true]
    exact fun r hr => h2 r (List.mem_of_mem_take hr)
end LC

namespace LC
open PySem PySem.Spec PyProof.Rows L2 Evl
section
variable {K : Frag} {σ : L2.St} {B H H' : Hp} {ta tb te : TE} {d e z : PyData} {ds es : List PyData}
/-- two operands in a row, with a part for the data -/
theorem evb_op {r : R2} (ha : EvB K ta σ B H d) (hb : EvB K tb σ B H e) (hr : ∀ x y H1 A, Ex A H1 → Dt K A x d → Dt K A y e → ∀ Q : VK, (∀ v H2 C, Gr A H1 H2 C → Dt K C v z → Q v H2) → r x y H1 Q) : EvB K (tOp r ta tb) σ B H z := fun H1 e1 Q q =>
  ha H1 e1 _ fun x H2 A g hx => hb H2 (e1.trans g.ex) _ fun y H3 C g2 hy => hr x y H3 _ (g.join g2).d2 (dp_ex join_l _ _ hx) (dp_ex (join_r (g.d2.trans g2.ex) g2.d2) _ _ hy) Q fun v H4 C2 g3 hv => q v H4 C2
    ⟨(g.ex.trans g2.ex).trans g3.ex, (g.join g2).xd.trans g3.xd, g3.d2, fun a h0 h1 => g3.fr a ((g.join g2).fr a h0 h1) (ne_none (g.ex.trans g2.ex) h1)⟩ hv
theorem evb_addT (ha : EvB K ta σ B H (.tuple ds)) (hb : EvB K tb σ B H (.tuple es)) (hl : ds.length + es.length ≤ 100000) : EvB K (tOp (rAddU K) ta tb) σ B H (.tuple (ds ++ es)) := evb_op ha hb fun x y H1 A e hx hy Q q => by
  obtain ⟨a, xs, rfl, hs, h1⟩ := dp_tup hx
  obtain ⟨b, ys, rfl, ht, h2⟩ := dp_tup hy
  refine .inr (.inr (.inr ⟨a, b, xs, ys, rfl, rfl, ex_t e hs, ex_t e ht, by rw [dpAll_len h1, dpAll_len h2]; exact sz_of hl, fun z => ?_, fun _ z => ?_, fun _ _ p hp => ?_⟩))
  · subst z
    cases h1
    exact q _ H1 A (Gr.base e (Ex.refl H1)) (.tup ht h2)
  · subst z
    cases h2
    rw [List.append_nil] at q
    exact q _ H1 A (Gr.base e (Ex.refl H1)) (.tup hs h1)
  · exact q _ _ _ ((Gr.base e (Ex.refl H1)).new _ hp) (.tup (st_of upd_same) (dpAll_ex (Ex.new (fresh_back e hp)) _ _ (dpAll_app h1 h2)))
theorem evb_slL {lo hi : TO} {l h : Option Int} (ha : EvB K ta σ B H (.list ds)) (hl : EvO lo σ H l) (hh : EvO hi σ H h) : EvB K (tSl (rSlU K) ta lo hi) σ B H (.list (cutD ds l h)) := fun H1 e Q q =>
  ha H1 e _ fun v H2 A g hd => hl H2 (e.trans g.ex) _ fun H3 e3 => hh H3 ((e.trans g.ex).trans e3) _ fun H4 e4 => by
    obtain ⟨a, xs, rfl, hs, hall⟩ := dp_lst hd
    have g4 : Gr B H1 H4 A := g.more (e3.trans e4)
    exact .inl ⟨a, xs, rfl, sq_of (g4.d2 _ _ hs), fun p hp => q _ _ _ (g4.new _ hp) (.lst upd_same (dpAll_ex (Ex.new (fresh_back g4.d2 hp)) _ _ (cutV_dp hall l h)))⟩
end
theorem cut_mid (ds : List PyData) (a b : Nat) (h : a ≤ b) : cutD ds (some (a : Int)) (some (b : Int)) = (ds.drop a).take (b - a) := by
  unfold cutD
  rw [HT.sIx_nat, HT.sIx_nat]
  by_cases ha : a ≤ ds.length
  · rw [Nat.min_eq_left ha]
    by_cases hb : b ≤ ds.length
    · rw [Nat.min_eq_left hb]
    · rw [Nat.min_eq_right (by omega), List.take_of_length_le (by rw [List.length_drop]; omega), List.take_of_length_le (by rw [List.length_drop]; omega)]
  · rw [List.drop_eq_nil_of_le (as := ds) (i := a) (by omega), List.drop_eq_nil_of_le (as := ds) (i := min a ds.length) (by omega)]
    simp
theorem eqv_ints : ∀ l m : List Int, PyData.eqv (.list (l.map PyData.int)) (.list (m.map PyData.int)) = decide (l = m)
  | [], [] => rfl
  | [], _ :: _ => rfl
  | _ :: _, [] => rfl
  | x :: l, y :: m => by
    have ih := eqv_ints l m
    have e : PyData.eqv (.list ((x :: l).map PyData.int)) (.list ((y :: m).map PyData.int)) = ((x == y) && PyData.eqv (.list (l.map PyData.int)) (.list (m.map PyData.int))) := by
      simp only [List.map_cons, PyData.eqv, PyData.eqvAll]
    rw [e, ih, Bool.eq_iff_iff]
    simp
/-! ### join -/
theorem source_app {a b : Src} (ha : goodS a = true) (hb : goodS b = true) : isSource (encS (a ++ b)) = decide (a.length + b.length ≤ 8) := by
  show (decide (((a ++ b).map Rw.enc).length ≤ 8) && ((a ++ b).map Rw.enc).all isRow) = _
  have h : ((a ++ b).map Rw.enc).all isRow = true := by
    rw [List.all_eq_true]
    intro d hd
    obtain ⟨r, hr, rfl⟩ := List.mem_map.mp hd
    rcases List.mem_append.mp hr with h | h
    · exact isRow_enc r (goodS_row ha h)
    · exact isRow_enc r (goodS_row hb h)
  rw [h, Bool.and_true, List.length_map, List.length_append]
theorem ok_app {a b : Src} (ha : goodS a = true) (hb : goodS b = true) : okD (encS (a ++ b)) = true := by
  refine ok_tup_of fun d hd => ?_
  obtain ⟨r, hr, rfl⟩ := List.mem_map.mp hd
  rcases List.mem_append.mp hr with h | h
  · exact ok_row r (goodS_row ha h)
  · exact ok_row r (goodS_row hb h)
theorem enc_app (a b : Src) : PyData.tuple (a.map Rw.enc ++ b.map Rw.enc) = encS (a ++ b) := by
  rw [← List.map_append]
  rfl
theorem goodS_app {a b : Src} (ha : goodS a = true) (hb : goodS b = true) (hl : a.length + b.length ≤ 8) : goodS (a ++ b) = true := by
  unfold goodS at *
  rw [Bool.and_eq_true] at *
  refine ⟨decide_eq_true (by rw [List.length_append]; exact hl), ?_⟩
  rw [List.all_append, ha.2, hb.2]
  rfl
theorem next_ne (st : NbS) (n m : Nat) (hn : n ∈ st.row) : PyData.eqv (.list (cutD (st.row.map fun n : Nat => PyData.int (n : Int)) (some ((st.row.idxOf n : Int) + 1)) (some ((st.row.idxOf n : Int) + 2)))) (.list [.int (m : Int)]) = decide (nextOf st n = [m]) := by
  have e := cut_mid (st.row.map fun n : Nat => PyData.int (n : Int)) (st.row.idxOf n + 1) (st.row.idxOf n + 2) (by omega)
  have e1 : ((st.row.idxOf n : Int) + 1) = ((st.row.idxOf n + 1 : Nat) : Int) := by omega
  have e2 : ((st.row.idxOf n : Int) + 2) = ((st.row.idxOf n + 2 : Nat) : Int) := by omega
  rw [e1, e2, e, ← List.map_drop, ← List.map_take]
  have e3 : st.row.idxOf n + 2 - (st.row.idxOf n + 1) = 1 := by omega
  rw [e3]
  show PyData.eqv (.list ((nextOf st n).map fun n : Nat => PyData.int (n : Int))) _ = _
  have := eqv_ints ((nextOf st n).map fun n : Nat => (n : Int)) [(m : Int)]
  rw [List.map_map] at this
  refine Eq.trans this ?_
  rw [Bool.eq_iff_iff]
  simp only [decide_eq_true_eq]
  constructor
  · intro h
    cases hx : nextOf st n with
    | nil => rw [hx] at h; cases h
    | cons x l =>
      rw [hx] at h
      rw [List.map_cons] at h
      injection h with h1 h2
      have h2 : l = [] := List.map_eq_nil_iff.mp h2
      rw [h2]
      congr 1
      exact Int.ofNat.inj h1
  · intro h
    rw [h]
    rfl
end LC

namespace LC
open PySem PySem.Spec PyProof.Rows L2 Evl
/-! ### sorted(list of ints), list(range) -/
def sortL (ns : List Int) : List Int := ns.mergeSort fun a b => decide (a ≤ b)
theorem sortL_eq {ns ns' : List Int} (h : ns'.Perm ns) (p : ns'.Pairwise (· ≤ ·)) : ns' = sortL ns := by
  refine (h.trans (List.mergeSort_perm _ _).symm).eq_of_pairwise (le := fun a b => a ≤ b) (fun x y _ _ h1 h2 => by omega) p ?_
  refine (List.pairwise_mergeSort ?_ ?_ ns).imp fun h => of_decide_eq_true h
  · intro a b c h1 h2
    exact decide_eq_true (by have := of_decide_eq_true h1; have := of_decide_eq_true h2; omega)
  · intro a b
    simp only [Bool.or_eq_true, decide_eq_true_eq]
    omega
theorem kSortL {X : Cx} {K : Frag} (h : X.K = K) : CallR X (.builtin "sorted") (rSorted K) := h ▸ cr_sorted
section
variable {K : Frag} {σ : L2.St} {B H : Hp} {te tb ta : TE}
theorem evd_sortL {ns : List Int} (h : EvD K te σ H (.list (ns.map PyData.int))) (hl : ns.length < 64) : EvD K (tCB (rSorted K) (tCons te tNil)) σ H (.list ((sortL ns).map PyData.int)) := fun H1 e Q q =>
  h H1 e _ fun v H2 A g hd => by
    obtain ⟨a, xs, rfl, hs, hall⟩ := dp_lst hd
    have ex : xs = ns.map V.int := ints_inv hall
    subst ex
    refine ⟨a, ns, rfl, sq_of (g.d2 _ _ hs), hl, fun ns' p hp pw hn => ?_⟩
    rw [sortL_eq hp pw]
    exact q _ _ _ (g.new _ hn) (.lst upd_same (dt_ints _))
theorem evd_lstRg {n : Nat} (hn : n ≤ 1000) (h : EvD K te σ H (.int (n : Int))) : EvD K (tLstRg (tRg1 te)) σ H (.list ((List.range n).map fun i : Nat => PyData.int (i : Int))) := fun H1 e Q q =>
  h H1 e _ fun v H2 A g hd => by
    rw [dp_int hd]
    refine ⟨_, rfl, ⟨by omega, by omega, by omega, by omega, by omega⟩, fun p hp => ?_⟩
    have e : rgV 0 (n : Int) = (List.range n).map fun i : Nat => V.int (i : Int) := by
      unfold rgV
      simp
    rw [e]
    refine q _ _ _ (g.new _ hp) (.lst upd_same ?_)
    have := dt_ints (K := K) (H := upd A p (.lst ((List.range n).map fun i : Nat => V.int (i : Int)))) ((List.range n).map fun i : Nat => (i : Int))
    rw [List.map_map, List.map_map] at this
    exact this
/-! ### tests that call what changes -/
theorem tt_op {r : R2} {Q : Bool → Hp → Prop} (h : ta σ H fun x H1 => tb σ H1 fun y H2 => r x y H2 fun z H3 => ∃ b, z = .bl b ∧ Q b H3) : tTest (tOp r ta tb) σ H Q := h
theorem k_ne {v : V} {d e : PyData} {Q : Bool → Hp → Prop} (hv : Dt K B v d) (x : Ex B H) (hb : EvB K tb σ B H e) (sd : SeqAt.shaped d = true) (se : SeqAt.shaped e = true) (k : ∀ H2, Ex H H2 → Q (!PyData.eqv d e) H2) :
    tb σ H fun y H2 => rNeD K v y H2 fun z H3 => ∃ b, z = .bl b ∧ Q b H3 := hb H (Ex.refl H) _ fun y H2 Hd g hd => ⟨d, e, dt_dp _ _ (dp_ex (x.trans g.ex) _ _ hv), dt_dp _ _ (dp_ex g.d2 _ _ hd), sd, se, _, rfl, k H2 g.ex⟩
theorem k_eq {v : V} {d e : PyData} {Q : Bool → Hp → Prop} (hv : Dt K B v d) (x : Ex B H) (hb : EvB K tb σ B H e) (sd : SeqAt.shaped d = true) (se : SeqAt.shaped e = true) (k : ∀ H2, Ex H H2 → Q (PyData.eqv d e) H2) :
    tb σ H fun y H2 => rEqD K v y H2 fun z H3 => ∃ b, z = .bl b ∧ Q b H3 := hb H (Ex.refl H) _ fun y H2 Hd g hd => ⟨d, e, dt_dp _ _ (dp_ex (x.trans g.ex) _ _ hv), dt_dp _ _ (dp_ex g.d2 _ _ hd), sd, se, _, rfl, k H2 g.ex⟩
end
theorem s_or1 {t u : TT} {tu tw : TS} {D : Ends} {σ : L2.St} {H : Hp} (h : t σ H fun c H1 => if c = true then tu D σ H1 else u σ H1 fun b H2 => if b = true then tu D σ H2 else tw D σ H2) : tIfS (tOr t u) tu tw D σ H := h
theorem s_seqP {t u : TS} {D : Ends} {σ : L2.St} {H : Hp} (P : L2.St → Hp → Prop) (fin : ∀ σ H, P σ H → u D σ H) (k : (∀ σ H, P σ H → u D σ H) → t { D with nx := u D } σ H) : tSeq t u D σ H := k fin
theorem cutD_len (ds : List PyData) (l h : Option Int) : (cutD ds l h).length ≤ ds.length := by
  unfold cutD
  rw [List.length_take, List.length_drop]
  omega
theorem cut_upto (ds : List PyData) (n : Nat) : cutD ds none (some (n : Int)) = ds.take n := by
  unfold cutD
  rw [HT.sIx_none, HT.sIx_nat, List.drop_zero, Nat.sub_zero]
  by_cases h : n ≤ ds.length
  · rw [Nat.min_eq_left h]
  · rw [Nat.min_eq_right (by omega), List.take_of_length_le (Nat.le_refl _), List.take_of_length_le (by omega)]
/-! ### mix -/
def mixF (c p m : Int) : Int := (c * 48271 % p) ^ 3 % p % m
def F_mix (ds : List PyData) (d : PyData) : Prop := ∃ c p m : Int, ds = [.int c, .int p, .int m] ∧ 0 < p ∧ p < 1000000 ∧ 0 < m ∧ d = .int (mixF c p m)
theorem mix_lt {c p m : Int} (h : 0 < m) : 0 ≤ mixF c p m ∧ mixF c p m < m := by
  unfold mixF
  exact ⟨Int.emod_nonneg _ (by omega), Int.emod_lt_of_pos _ h⟩
/-! ### cut keeps the state good -/
theorem mem_cutS {st : NbS} {n k m : Nat} : m ∈ (cutS st n k).row ↔ m = st.after ∨ m ∈ st.row := mem_putS (src := (st.cell n).src.drop k)
theorem NbG.cut {st : NbS} (G : NbG st) {n k : Nat} (hn : n ∈ st.row) (hl : st.row.length < 30) (hf : st.after < 5000) (hc : (st.cell n).count < 5000) : NbG (cutS st n k) := by
  have hg := G.good n hn
  refine NbG.setS (NbG.setS (G.put (goodS_drop hg k) hl hf) (goodS_drop hg k) (Nat.zero_le _)) (goodS_take hg k) ?_
  show (st.cell n).count + 1 ≤ 5000
  omega
theorem cutS_len {st : NbS} {n k : Nat} : (cutS st n k).row.length = st.row.length + 1 := by
  show (st.row.take _ ++ [st.after] ++ st.row.drop _).length = _
  rw [List.length_append, List.length_append, List.length_take, List.length_drop, List.length_singleton]
  omega
theorem putS_len {st : NbS} {i : Nat} {src : Src} : (putS st i src).row.length = st.row.length + 1 := by
  show (st.row.take _ ++ [st.after] ++ st.row.drop _).length = _
  rw [List.length_append, List.length_append, List.length_take, List.length_drop, List.length_singleton]
  omega
/-- all numbers below after are there -/
theorem pigeon : ∀ (k : Nat) (row : List Nat), row.Nodup → (∀ n ∈ row, n < k) → row.length ≤ k
  | 0, row, _, lt => by
    cases row with
    | nil => exact Nat.le_refl _
    | cons a l => exact absurd (lt a (List.mem_cons_self ..)) (by omega)
  | k + 1, row, nd, lt => by
    have ih := pigeon k (row.erase k) (nd.erase k) fun n hn => by
      have h := (List.Nodup.mem_erase_iff nd).mp hn
      have := lt n h.2
      have := h.1
      omega
    have := List.length_erase (a := k) (l := row)
    split at this <;> omega
theorem row_all {row : List Nat} {k : Nat} (nd : row.Nodup) (lt : ∀ n ∈ row, n < k) (len : row.length = k) {m : Nat} (hm : m < k) : m ∈ row := by
  refine Classical.byContradiction fun h => ?_
  have := pigeon k (m :: row) (List.nodup_cons.mpr ⟨h, nd⟩) fun n hn => by
    rcases List.mem_cons.mp hn with rfl | hn
    · exact hm
    · exact lt n hn
  rw [List.length_cons] at this
  omega
theorem row_full {row : List Nat} {k : Nat} (nd : row.Nodup) (lt : ∀ n ∈ row, n < k) (len : row.length = k) : row.Perm (List.range k) :=
  (List.perm_ext_iff_of_nodup nd List.nodup_range).mpr fun m => ⟨fun h => List.mem_range.mpr (lt m h), fun h => row_all nd lt len (List.mem_range.mp h)⟩
theorem sort_perm {row : List Nat} {k : Nat} (h : row.Perm (List.range k)) : sortL (row.map fun n : Nat => (n : Int)) = (List.range k).map fun n : Nat => (n : Int) := by
  refine (sortL_eq (h.symm.map _) ?_).symm
  rw [List.pairwise_map]
  exact List.pairwise_lt_range.imp fun h => by omega
/-! ### k19 -/
def rowsS (m : Nat) : Src := (List.range m).map fun k : Nat => Rw.shw (.num (k : Int))
theorem rowsS_good {m : Nat} (h : m ≤ 8) : goodS (rowsS m) = true := by
  unfold goodS rowsS
  rw [Bool.and_eq_true]
  refine ⟨decide_eq_true (by rw [List.length_map, List.length_range]; exact h), ?_⟩
  rw [List.all_map, List.all_eq_true]
  intro k hk
  have := List.mem_range.mp hk
  simp [Rw.good, Sm.good, Sm.depth, Function.comp]
  omega
theorem rowsS_len (m : Nat) : (rowsS m).length = m := by unfold rowsS; rw [List.length_map, List.length_range]
theorem rows2_good {m : Nat} (h : m ≤ 8) : goodS (rowsS m ++ (rowsS m).take (8 - m)) = true :=
  goodS_app (rowsS_good h) (goodS_take (rowsS_good h) _) (by rw [List.length_take, rowsS_len]; omega)
theorem shN (l : List Nat) : SeqAt.shaped (.list (l.map fun n : Nat => PyData.int (n : Int))) = true := by
  refine shaped_of (ok_lst_of fun d hd => ?_) (Nat.le_trans (depth_list (n := 0) fun d hd => ?_) (by decide))
  · obtain ⟨q, _, rfl⟩ := List.mem_map.mp hd
    rfl
  · obtain ⟨q, _, rfl⟩ := List.mem_map.mp hd
    exact Nat.le_refl _
theorem eqv_self {d : PyData} (h : SeqAt.shaped d = true) : PyData.eqv d d = true := SeqAt.eqv_refl _ (SeqAt.canLay_of_shaped h)
theorem atI_m2 {α : Type} (l : List α) (x y : α) : atI (l ++ [x, y]) (-2) = some x := by
  have e : ixN (l ++ [x, y]).length (-2) = some l.length := by
    unfold ixN
    rw [List.length_append]
    show (if (0 : Int) ≤ -2 then _ else if -((l.length + 2 : Nat) : Int) ≤ -2 then some ((-2 : Int) + ((l.length + 2 : Nat) : Int)).toNat else none) = some l.length
    rw [if_neg (by decide), if_pos (by omega)]
    congr 1
    omega
  unfold atI
  rw [e]
  simp
theorem next_end {t0 : List Nat} {x y : Nat} (nd : (t0 ++ [x, y]).Nodup) : ((t0 ++ [x, y]).drop ((t0 ++ [x, y]).idxOf x + 1)).take 1 = [y] := by
  have hx : x ∉ t0 := fun h => by
    rw [List.nodup_append] at nd
    exact nd.2.2 x h x (by simp) rfl
  have e : (t0 ++ [x, y]).idxOf x = t0.length := by
    rw [List.idxOf_append]
    rw [if_neg hx]
    simp
  rw [e]
  simp
structure I19 (st : NbS) (k : Nat) : Prop where
  G : NbG st
  len : st.row.length = k
  af : st.after = k
  pl : ∀ n ∈ st.row, (st.cell n).struck = false ∧ (st.cell n).count ≤ k
theorem I19.st0 : I19 st0 0 := ⟨NbG.st0, rfl, rfl, fun _ h => nomatch h⟩
theorem I19.all {st : NbS} {k m : Nat} (I : I19 st k) (h : m < k) : m ∈ st.row := row_all I.G.nd (fun n hn => by have := I.G.lt n hn; rw [I.af] at this; exact this) I.len h
theorem I19.put {st : NbS} {k i : Nat} {src : Src} (I : I19 st k) (hk : k < 30) (hg : goodS src = true) : I19 (putS st i src) (k + 1) := by
  have hna : st.after ∉ st.row := fun h => by have := I.G.lt _ h; omega
  refine ⟨I.G.put hg (by rw [I.len]; exact hk) (by rw [I.af]; omega), by rw [putS_len, I.len], by show st.after + 1 = _; rw [I.af], fun n hn => ?_⟩
  show (if n = st.after then newCell src else st.cell n).struck = false ∧ (if n = st.after then newCell src else st.cell n).count ≤ k + 1
  rcases mem_putS.mp hn with h | h
  · rw [if_pos h]
    exact ⟨rfl, Nat.zero_le _⟩
  · rw [if_neg (fun z : n = st.after => hna (z ▸ h))]
    have := I.pl n h
    exact ⟨this.1, by omega⟩
theorem I19.cut {st : NbS} {k n j : Nat} (I : I19 st k) (hk : k < 30) (hn : n ∈ st.row) : I19 (cutS st n j) (k + 1) := by
  have hna : st.after ∉ st.row := fun h => by have := I.G.lt _ h; omega
  have pn := I.pl n hn
  refine ⟨I.G.cut hn (by rw [I.len]; exact hk) (by rw [I.af]; omega) (by omega), by rw [cutS_len, I.len], by show st.after + 1 = _; rw [I.af], fun m hm => ?_⟩
  unfold cutS LC.setS
  dsimp only
  by_cases e1 : m = n
  · rw [if_pos e1]
    exact ⟨pn.1, by dsimp only; omega⟩
  · rw [if_neg e1]
    by_cases e2 : m = st.after
    · rw [if_pos e2]
      exact ⟨pn.1, Nat.zero_le _⟩
    · rw [if_neg e2]
      rcases mem_cutS.mp hm with h | h
      · exact absurd h e2
      · have := I.pl m h
        show (if m = st.after then _ else st.cell m).struck = false ∧ (if m = st.after then _ else st.cell m).count ≤ _
        rw [if_neg e2]
        exact ⟨this.1, by omega⟩
end LC

namespace LC
open PySem L2 Evl TL
/-! ### texts: what the defs compute, plain -/
def figuresS : Str := "0123456789"
def numW (i : Int) : Str := Str.ofString (toString i)
def Sm.words : Sm → List Str
  | .num i => [numW i]
  | .nm x => [x]
  | .op w a b => w :: (a.words ++ b.words)
  | .ite a b c => "if" :: (a.words ++ (b.words ++ c.words))
def Rw.words : Rw → List Str
  | .set x s => "set" :: x :: s.words
  | .shw s => "show" :: s.words
def lineS (r : Rw) : Str := Txt.join " " r.words
def textS (src : Src) : Str := Txt.join "\n" (src.map lineS)
def numT (w : Str) : Bool := !decide (w = "") && (decide (w.length < 5) && w.cps.toList.all fun c => decide (c ∈ figuresS.cps.toList))
def leafT (w : Str) : PyData := if numT w = true then .int ((NumText.digitsVal w.cps.toList : Nat) : Int) else .str w
def headT (w : Str) : Bool := decide (w ∈ wordsS) || decide (w = "if")
def partsAt (f : Nat → Option (PyData × Nat)) : Nat → Nat → Option (List PyData × Nat)
  | 0, p => some ([], p)
  | k + 1, p => (partsAt f k p).bind fun q => (f q.2).map fun r => (q.1 ++ [r.1], r.2)
def sumAt (ws : List Str) : Nat → Nat → Option (PyData × Nat)
  | 0, _ => none
  | d + 1, p => match ws[p]? with
    | none => none
    | some w => if headT w = true then (partsAt (sumAt ws d) (2 + if w = "if" then 1 else 0) (p + 1)).map fun q => (.tuple (.str w :: q.1), q.2) else some (leafT w, p + 1)
def sizeT (ws : List Str) : Nat := 1 + if ws[0]? = some ("set" : Str) then 1 else 0
def rowW (ws : List Str) : Option PyData := (sumAt ws 7 (sizeT ws)).bind fun q => if q.2 = ws.length then some (.tuple ((ws.take (sizeT ws)).map PyData.str ++ [q.1])) else none
def rowT (line : Str) : Option PyData := rowW (Txt.split line " ")
def allT {α β : Type} (f : α → Option β) : List α → Option (List β)
  | [] => some []
  | a :: l => (f a).bind fun b => (allT f l).map fun r => b :: r
def rowsT (t : Str) : Option (List PyData) := if t = "" then some [] else allT rowT (Txt.split t "\n")
/-! the words of a sum -/
theorem fig_iff {c : Nat} : c ∈ figuresS.cps.toList ↔ 48 ≤ c ∧ c ≤ 57 := by
  have e : figuresS.cps.toList = [48, 49, 50, 51, 52, 53, 54, 55, 56, 57] := by decide +kernel
  rw [e]
  simp only [List.mem_cons, List.not_mem_nil, or_false]
  omega
theorem small_iff {c : Nat} (h : c ∈ smallS.cps.toList) : 97 ≤ c ∧ c ≤ 122 := by
  have e : smallS.cps.toList.all (fun c => decide (97 ≤ c) && decide (c ≤ 122)) = true := by decide +kernel
  have := List.all_eq_true.mp e c h
  simpa using this
theorem name_signs {x : Str} (h : nameS x = true) : x.cps.toList ≠ [] ∧ x.length ≤ 4 ∧ x ∉ barredS ∧ ∀ c ∈ x.cps.toList, 97 ≤ c ∧ c ≤ 122 := by
  unfold nameS at h
  simp only [Bool.and_eq_true, decide_eq_true_eq, List.all_eq_true, Bool.not_eq_true', decide_eq_false_iff_not] at h
  refine ⟨fun z => ?_, h.1.2, h.2.1, fun c hc => small_iff (h.2.2 c hc)⟩
  have := h.1.1
  rw [len_tl] at this
  rw [show tl x = [] from z] at this
  cases this
theorem num_signs {i : Int} (h0 : 0 ≤ i) (h9 : i ≤ 9999) : (numW i).cps.toList ≠ [] ∧ (numW i).length ≤ 4 ∧ (∀ c ∈ (numW i).cps.toList, 48 ≤ c ∧ c ≤ 57) ∧ NumText.digitsVal (numW i).cps.toList = i.toNat := by
  obtain ⟨n, rfl⟩ := Int.eq_ofNat_of_zero_le h0
  have e : (numW (n : Int)).cps.toList = numL n := tl_num n
  rw [e]
  refine ⟨numL_ne n, ?_, numL_digits n, by rw [numL_val]; rfl⟩
  rw [len_tl, show tl (numW (n : Int)) = numL n from e]
  exact numL_len (by decide) (by omega)
theorem word_signs {w : Str} (h : headT w = true) : w.cps.toList ≠ [] ∧ w.length ≤ 5 ∧ ∀ c ∈ w.cps.toList, 97 ≤ c ∧ c ≤ 122 := by
  have q : ∀ w ∈ ("if" : Str) :: wordsS, (!w.cps.toList.isEmpty && (decide (w.length ≤ 5) && w.cps.toList.all fun c => decide (97 ≤ c) && decide (c ≤ 122))) = true := by decide +kernel
  have hm : w ∈ ("if" : Str) :: wordsS := by
    unfold headT at h
    rw [Bool.or_eq_true, decide_eq_true_iff, decide_eq_true_iff] at h
    rcases h with h | h
    · exact List.mem_cons_of_mem _ h
    · rw [h]; exact List.mem_cons_self ..
  have := q w hm
  simp only [Bool.and_eq_true, Bool.not_eq_true', decide_eq_true_eq, List.all_eq_true] at this
  refine ⟨fun z => ?_, this.2.1, this.2.2⟩
  rw [z] at this
  exact nomatch this.1
theorem num_no {w : Str} (hn : w.cps.toList ≠ []) (h : ∀ c ∈ w.cps.toList, 48 ≤ c ∧ c ≤ 57) : headT w = false := by
  cases q : headT w with
  | false => rfl
  | true =>
    obtain ⟨_, _, h2⟩ := word_signs q
    cases e : w.cps.toList with
    | nil => exact absurd e hn
    | cons c r =>
      have h1 := h c (by rw [e]; exact List.mem_cons_self ..)
      have h3 := h2 c (by rw [e]; exact List.mem_cons_self ..)
      omega
theorem name_no {x : Str} (h : nameS x = true) : headT x = false := by
  obtain ⟨_, _, hb, _⟩ := name_signs h
  unfold headT
  rw [Bool.or_eq_false_iff, decide_eq_false_iff_not, decide_eq_false_iff_not]
  have sub : ∀ w ∈ ("if" : Str) :: wordsS, w ∈ barredS := by decide +kernel
  exact ⟨fun z => hb (sub x (List.mem_cons_of_mem _ z)), fun z => hb (sub x (by rw [z]; exact List.mem_cons_self ..))⟩
theorem ne_nil {w : Str} (h : w.cps.toList ≠ []) : w ≠ "" := fun z => h (by rw [z]; rfl)
theorem leaf_num {i : Int} (h0 : 0 ≤ i) (h9 : i ≤ 9999) : leafT (numW i) = .int i := by
  obtain ⟨h1, h2, h3, h4⟩ := num_signs h0 h9
  have e : numT (numW i) = true := by
    unfold numT
    rw [decide_eq_false (ne_nil h1), decide_eq_true (show (numW i).length < 5 by omega)]
    simp only [Bool.not_false, Bool.true_and, List.all_eq_true, decide_eq_true_eq]
    exact fun c hc => fig_iff.mpr (h3 c hc)
  unfold leafT
  rw [if_pos e, h4, Int.toNat_of_nonneg h0]
theorem leaf_name {x : Str} (h : nameS x = true) : leafT x = .str x := by
  obtain ⟨h1, _, _, h2⟩ := name_signs h
  have e : ¬ numT x = true := fun z => by
    unfold numT at z
    simp only [Bool.and_eq_true, List.all_eq_true, decide_eq_true_eq] at z
    cases q : x.cps.toList with
    | nil => exact h1 q
    | cons c r =>
      have hc : c ∈ x.cps.toList := by rw [q]; exact List.mem_cons_self ..
      have := fig_iff.mp (z.2.2 c hc)
      have := h2 c hc
      omega
  unfold leafT
  rw [if_neg e]
/-- a sum read back -/
theorem sumAt_words : ∀ (s : Sm) (n : Nat) (u v : List Str), s.good = true → s.depth < n → sumAt (u ++ (s.words ++ v)) n u.length = some (s.enc, u.length + s.words.length)
  | .num i, n + 1, u, v, hg, _ => by
    have hg : (decide (0 ≤ i) && decide (i ≤ 9999)) = true := hg
    rw [Bool.and_eq_true, decide_eq_true_iff, decide_eq_true_iff] at hg
    obtain ⟨h1, h2, h3, h4⟩ := num_signs hg.1 hg.2
    unfold sumAt
    rw [List.getElem?_append_right (Nat.le_refl _), Nat.sub_self]
    show (if headT (numW i) = true then _ else some (leafT (numW i), u.length + 1)) = _
    rw [if_neg (by rw [num_no h1 h3]; exact Bool.false_ne_true), leaf_num hg.1 hg.2]
    rfl
  | .nm x, n + 1, u, v, hg, _ => by
    have hg : nameS x = true := hg
    unfold sumAt
    rw [List.getElem?_append_right (Nat.le_refl _), Nat.sub_self]
    show (if headT x = true then _ else some (leafT x, u.length + 1)) = _
    rw [if_neg (by rw [name_no hg]; exact Bool.false_ne_true), leaf_name hg]
    rfl
  | .op w a b, n + 1, u, v, hg, hd => by
    have hg : (decide (w ∈ wordsS) && (a.good && b.good)) = true := hg
    simp only [Bool.and_eq_true, decide_eq_true_eq] at hg
    have hd : max a.depth b.depth + 1 < n + 1 := hd
    have hw : w ≠ "if" := fun z => noIf (z ▸ hg.1)
    have ih1 := sumAt_words a n (u ++ [w]) (b.words ++ v) hg.2.1 (by omega)
    have ih2 := sumAt_words b n (u ++ w :: a.words) v hg.2.2 (by omega)
    have e0 : u ++ ((Sm.op w a b).words ++ v) = (u ++ [w]) ++ (a.words ++ (b.words ++ v)) := by simp [Sm.words]
    have e1 : u ++ ((Sm.op w a b).words ++ v) = (u ++ w :: a.words) ++ (b.words ++ v) := by simp [Sm.words]
    rw [← e0] at ih1
    rw [← e1] at ih2
    unfold sumAt
    rw [List.getElem?_append_right (Nat.le_refl _), Nat.sub_self]
    show (if headT w = true then (partsAt (sumAt (u ++ ((Sm.op w a b).words ++ v)) n) (2 + if w = "if" then 1 else 0) (u.length + 1)).map _ else _) = _
    rw [if_pos (by unfold headT; rw [decide_eq_true hg.1]; rfl), if_neg hw]
    have l1 : (u ++ [w]).length = u.length + 1 := by simp
    have l2 : (u ++ w :: a.words).length = u.length + 1 + a.words.length := by simp; omega
    rw [l1] at ih1
    rw [l2] at ih2
    show (partsAt _ 2 _).map _ = _
    unfold partsAt
    unfold partsAt
    unfold partsAt
    simp only [Option.bind_some, ih1, Option.map_some, ih2]
    congr 2
    simp only [Sm.words, List.length_cons, List.length_append]
    omega
  | .ite a b c, n + 1, u, v, hg, hd => by
    have hg : (a.good && (b.good && c.good)) = true := hg
    simp only [Bool.and_eq_true] at hg
    have hd : max a.depth (max b.depth c.depth) + 1 < n + 1 := hd
    have ih1 := sumAt_words a n (u ++ [("if" : Str)]) (b.words ++ (c.words ++ v)) hg.1 (by omega)
    have ih2 := sumAt_words b n (u ++ ("if" : Str) :: a.words) (c.words ++ v) hg.2.1 (by omega)
    have ih3 := sumAt_words c n (u ++ ("if" : Str) :: (a.words ++ b.words)) v hg.2.2 (by omega)
    have e0 : u ++ ((Sm.ite a b c).words ++ v) = (u ++ [("if" : Str)]) ++ (a.words ++ (b.words ++ (c.words ++ v))) := by simp [Sm.words]
    have e1 : u ++ ((Sm.ite a b c).words ++ v) = (u ++ ("if" : Str) :: a.words) ++ (b.words ++ (c.words ++ v)) := by simp [Sm.words]
    have e2 : u ++ ((Sm.ite a b c).words ++ v) = (u ++ ("if" : Str) :: (a.words ++ b.words)) ++ (c.words ++ v) := by simp [Sm.words]
    rw [← e0] at ih1
    rw [← e1] at ih2
    rw [← e2] at ih3
    unfold sumAt
    rw [List.getElem?_append_right (Nat.le_refl _), Nat.sub_self]
    show (if headT "if" = true then (partsAt (sumAt (u ++ ((Sm.ite a b c).words ++ v)) n) (2 + if ("if" : Str) = "if" then 1 else 0) (u.length + 1)).map _ else _) = _
    rw [if_pos (by decide +kernel), if_pos rfl]
    have l1 : (u ++ [("if" : Str)]).length = u.length + 1 := by simp
    have l2 : (u ++ ("if" : Str) :: a.words).length = u.length + 1 + a.words.length := by simp; omega
    have l3 : (u ++ ("if" : Str) :: (a.words ++ b.words)).length = u.length + 1 + a.words.length + b.words.length := by simp; omega
    rw [l1] at ih1
    rw [l2] at ih2
    rw [l3] at ih3
    show (partsAt _ 3 _).map _ = _
    unfold partsAt
    unfold partsAt
    unfold partsAt
    unfold partsAt
    simp only [Option.bind_some, ih1, Option.map_some, ih2, ih3]
    congr 2
    simp only [Sm.words, List.length_cons, List.length_append]
    omega
/-! the signs of words -/
def lowW (w : Str) : Prop := w.length ≤ 5 ∧ ∀ c ∈ w.cps.toList, 48 ≤ c ∧ c ≤ 122
theorem words_low : ∀ (s : Sm), s.good = true → ∀ w ∈ s.words, lowW w
  | .num i, hg, w, hw => by
    have hg : (decide (0 ≤ i) && decide (i ≤ 9999)) = true := hg
    rw [Bool.and_eq_true, decide_eq_true_iff, decide_eq_true_iff] at hg
    obtain ⟨h1, h2, h3, h4⟩ := num_signs hg.1 hg.2
    rw [List.mem_singleton.mp hw]
    exact ⟨by omega, fun c hc => by have := h3 c hc; omega⟩
  | .nm x, hg, w, hw => by
    obtain ⟨h1, h2, h3, h4⟩ := name_signs (show nameS x = true from hg)
    rw [List.mem_singleton.mp hw]
    exact ⟨by omega, fun c hc => by have := h4 c hc; omega⟩
  | .op z a b, hg, w, hw => by
    have hg : (decide (z ∈ wordsS) && (a.good && b.good)) = true := hg
    simp only [Bool.and_eq_true] at hg
    rcases List.mem_cons.mp hw with rfl | hw
    · obtain ⟨_, h1, h2⟩ := word_signs (w := w) (by unfold headT; rw [hg.1]; rfl)
      exact ⟨h1, fun c hc => by have := h2 c hc; omega⟩
    · rcases List.mem_append.mp hw with hw | hw
      · exact words_low a hg.2.1 w hw
      · exact words_low b hg.2.2 w hw
  | .ite a b c, hg, w, hw => by
    have hg : (a.good && (b.good && c.good)) = true := hg
    simp only [Bool.and_eq_true] at hg
    rcases List.mem_cons.mp hw with rfl | hw
    · obtain ⟨_, h1, h2⟩ := word_signs (w := "if") (by decide +kernel)
      exact ⟨h1, fun c hc => by have := h2 c hc; omega⟩
    · rcases List.mem_append.mp hw with hw | hw
      · exact words_low a hg.1 w hw
      · rcases List.mem_append.mp hw with hw | hw
        · exact words_low b hg.2.1 w hw
        · exact words_low c hg.2.2 w hw
theorem words_len : ∀ (s : Sm), 2 * s.words.length + 1 ≤ 3 ^ (s.depth + 1)
  | .num _ => by show 2 * 1 + 1 ≤ 3 ^ 1; decide
  | .nm _ => by show 2 * 1 + 1 ≤ 3 ^ 1; decide
  | .op w a b => by
    have h1 := words_len a
    have h2 := words_len b
    show 2 * (w :: (a.words ++ b.words)).length + 1 ≤ 3 ^ (max a.depth b.depth + 1 + 1)
    have p1 : 3 ^ (a.depth + 1) ≤ 3 ^ (max a.depth b.depth + 1) := Nat.pow_le_pow_right (by decide) (by omega)
    have p2 : 3 ^ (b.depth + 1) ≤ 3 ^ (max a.depth b.depth + 1) := Nat.pow_le_pow_right (by decide) (by omega)
    have p3 : 3 ^ (max a.depth b.depth + 1 + 1) = 3 ^ (max a.depth b.depth + 1) * 3 := Nat.pow_succ ..
    have p4 : 3 ≤ 3 ^ (max a.depth b.depth + 1) := Nat.le_trans (by decide) (Nat.pow_le_pow_right (n := 3) (i := 1) (by decide) (by omega))
    rw [p3, List.length_cons, List.length_append]
    omega
  | .ite a b c => by
    have h1 := words_len a
    have h2 := words_len b
    have h3 := words_len c
    show 2 * (("if" : Str) :: (a.words ++ (b.words ++ c.words))).length + 1 ≤ 3 ^ (max a.depth (max b.depth c.depth) + 1 + 1)
    have p1 : 3 ^ (a.depth + 1) ≤ 3 ^ (max a.depth (max b.depth c.depth) + 1) := Nat.pow_le_pow_right (by decide) (by omega)
    have p2 : 3 ^ (b.depth + 1) ≤ 3 ^ (max a.depth (max b.depth c.depth) + 1) := Nat.pow_le_pow_right (by decide) (by omega)
    have p5 : 3 ^ (c.depth + 1) ≤ 3 ^ (max a.depth (max b.depth c.depth) + 1) := Nat.pow_le_pow_right (by decide) (by omega)
    have p3 : 3 ^ (max a.depth (max b.depth c.depth) + 1 + 1) = 3 ^ (max a.depth (max b.depth c.depth) + 1) * 3 := Nat.pow_succ ..
    rw [p3, List.length_cons, List.length_append, List.length_append]
    omega
theorem words_few {s : Sm} (h : s.depth ≤ 6) : s.words.length ≤ 1093 := by
  have h1 := words_len s
  have h2 : 3 ^ (s.depth + 1) ≤ 3 ^ 7 := Nat.pow_le_pow_right (by decide) (by omega)
  have h3 : 3 ^ 7 = 2187 := by decide
  omega
end LC

namespace LC
open PySem L2 Evl TL
/-! ### joined and split texts -/
theorem joinL_mem {S : List Nat} {c : Nat} : ∀ {ps : List (List Nat)}, c ∈ joinL S ps → c ∈ S ∨ ∃ p ∈ ps, c ∈ p
  | [], h => by cases h
  | [p], h => .inr ⟨p, List.mem_cons_self .., h⟩
  | p :: q :: r, h => by
    rcases List.mem_append.mp (show c ∈ p ++ (S ++ joinL S (q :: r)) from h) with h | h
    · exact .inr ⟨p, List.mem_cons_self .., h⟩
    · rcases List.mem_append.mp h with h | h
      · exact .inl h
      · rcases joinL_mem h with h | ⟨z, hz, h⟩
        · exact .inl h
        · exact .inr ⟨z, List.mem_cons_of_mem _ hz, h⟩
theorem joinL_len {S : List Nat} {n : Nat} : ∀ {ps : List (List Nat)}, (∀ p ∈ ps, p.length ≤ n) → (joinL S ps).length ≤ ps.length * (n + S.length)
  | [], _ => Nat.zero_le _
  | [p], h => by
    have := h p (List.mem_cons_self ..)
    show p.length ≤ 1 * (n + S.length)
    omega
  | p :: q :: r, h => by
    have h1 := h p (List.mem_cons_self ..)
    have h2 := joinL_len (S := S) (n := n) (ps := q :: r) fun z hz => h z (List.mem_cons_of_mem _ hz)
    show (p ++ (S ++ joinL S (q :: r))).length ≤ ((q :: r).length + 1) * (n + S.length)
    rw [List.length_append, List.length_append, Nat.add_mul]
    omega
theorem tl_joinT (y : Str) (ps : List Str) : tl (Txt.join y ps) = joinL (tl y) (ps.map tl) := by rw [join_eq, tl_join]
theorem join_mem {y : Str} {ps : List Str} {c : Nat} (h : c ∈ tl (Txt.join y ps)) : c ∈ tl y ∨ ∃ p ∈ ps, c ∈ tl p := by
  rw [tl_joinT] at h
  rcases joinL_mem h with h | ⟨p, hp, h⟩
  · exact .inl h
  · obtain ⟨z, hz, rfl⟩ := List.mem_map.mp hp
    exact .inr ⟨z, hz, h⟩
theorem join_len {y : Str} {ps : List Str} {n : Nat} (h : ∀ p ∈ ps, p.length ≤ n) : (Txt.join y ps).length ≤ ps.length * (n + y.length) := by
  rw [len_tl, tl_joinT, len_tl y]
  have := joinL_len (S := tl y) (n := n) (ps := ps.map tl) fun p hp => by
    obtain ⟨z, hz, rfl⟩ := List.mem_map.mp hp
    rw [← len_tl]
    exact h z hz
  rwa [List.length_map] at this
theorem sum_len {n : Nat} : ∀ {ps : List Str}, (∀ p ∈ ps, p.length ≤ n) → (ps.map (·.length)).sum ≤ ps.length * n
  | [], _ => Nat.zero_le _
  | p :: r, h => by
    have h1 := h p (List.mem_cons_self ..)
    have h2 := sum_len (n := n) (ps := r) fun z hz => h z (List.mem_cons_of_mem _ hz)
    rw [List.map_cons, List.sum_cons, List.length_cons, Nat.add_mul]
    omega
theorem spl_all {S : List Nat} : ∀ (l : List Nat) (k : Nat) (acc : List Nat), ∀ p ∈ spl S k acc l, (∀ c ∈ p, c ∈ acc ∨ c ∈ l) ∧ p.length ≤ acc.length + l.length
  | [], k, acc, p, hp => by
    rw [spl_nil] at hp
    rw [List.mem_singleton.mp hp]
    exact ⟨fun c hc => .inl hc, by simp⟩
  | c :: r, k + 1, acc, p, hp => by
    obtain ⟨h1, h2⟩ := spl_all r k acc p hp
    exact ⟨fun z hz => (h1 z hz).imp id (List.mem_cons_of_mem _), by rw [List.length_cons]; omega⟩
  | c :: r, 0, acc, p, hp => by
    cases q : pre S (c :: r) with
    | true =>
      rw [spl_hit q] at hp
      rcases List.mem_cons.mp hp with rfl | hp
      · exact ⟨fun z hz => .inl hz, Nat.le_add_right _ _⟩
      · obtain ⟨h1, h2⟩ := spl_all r _ [] p hp
        exact ⟨fun z hz => (h1 z hz).elim (fun w => nomatch w) fun w => .inr (List.mem_cons_of_mem _ w), by rw [List.length_nil] at h2; rw [List.length_cons]; omega⟩
    | false =>
      rw [spl_miss q] at hp
      obtain ⟨h1, h2⟩ := spl_all r 0 (acc ++ [c]) p hp
      refine ⟨fun z hz => ?_, by rw [List.length_append] at h2; rw [List.length_cons]; have : [c].length = 1 := rfl; omega⟩
      rcases h1 z hz with w | w
      · rcases List.mem_append.mp w with w | w
        · exact .inl w
        · rw [List.mem_singleton.mp w]
          exact .inr (List.mem_cons_self ..)
      · exact .inr (List.mem_cons_of_mem _ w)
theorem spl_count {S : List Nat} : ∀ (l : List Nat) (k : Nat) (acc : List Nat), 1 ≤ (spl S k acc l).length ∧ (spl S k acc l).length ≤ l.length + 1
  | [], k, acc => by rw [spl_nil]; exact ⟨Nat.le_refl _, Nat.le_refl _⟩
  | c :: r, k + 1, acc => by
    have := spl_count (S := S) r k acc
    show 1 ≤ (spl S k acc r).length ∧ (spl S k acc r).length ≤ r.length + 1 + 1
    omega
  | c :: r, 0, acc => by
    cases q : pre S (c :: r) with
    | true =>
      rw [spl_hit q, List.length_cons, List.length_cons]
      have := spl_count (S := S) r (S.length - 1) []
      omega
    | false =>
      rw [spl_miss q, List.length_cons]
      have := spl_count (S := S) r 0 (acc ++ [c])
      omega
def isSep (y : Str) : Prop := ∃ s : Nat, tl y = [s] ∧ y.cps.all (· < 256) = true
theorem sep_sp : isSep " " := ⟨32, by decide +kernel, by decide +kernel⟩
theorem sep_nl : isSep "\n" := ⟨10, by decide +kernel, by decide +kernel⟩
theorem split_tl {y : Str} (h : isSep y) (x : Str) : (Txt.split x y).map tl = spl (tl y) 0 [] (tl x) := by
  obtain ⟨s, h1, h2⟩ := h
  exact split_spl x y (by rw [h1]; simp) (kind_ok h2)
theorem split_all {y : Str} (h : isSep y) {x p : Str} (hp : p ∈ Txt.split x y) : (∀ c ∈ tl p, c ∈ tl x) ∧ p.length ≤ x.length := by
  have : tl p ∈ spl (tl y) 0 [] (tl x) := by rw [← split_tl h]; exact List.mem_map.mpr ⟨p, hp, rfl⟩
  obtain ⟨h1, h2⟩ := spl_all _ _ _ _ this
  refine ⟨fun c hc => (h1 c hc).elim (fun w => nomatch w) id, ?_⟩
  rw [len_tl, len_tl x]
  rw [List.length_nil] at h2
  omega
theorem split_count {y : Str} (h : isSep y) (x : Str) : 1 ≤ (Txt.split x y).length ∧ (Txt.split x y).length ≤ x.length + 1 := by
  have e := congrArg List.length (split_tl h x)
  rw [List.length_map] at e
  rw [e, len_tl]
  exact spl_count _ _ _
theorem split_eq {y : Str} (h : isSep y) (x : Str) : Txt.split x y = (spl (tl y) 0 [] (tl x)).map fun l => ⟨l.toArray⟩ := by
  rw [← split_tl h, List.map_map]
  have : ∀ l : List Str, l.map ((fun l : List Nat => (⟨l.toArray⟩ : Str)) ∘ tl) = l := fun l => by
    induction l with
    | nil => rfl
    | cons a l ih => rw [List.map_cons, ih]; rfl
  rw [this]
/-! a line read back -/
theorem row_low {r : Rw} (h : r.good = true) : (∀ w ∈ r.words, lowW w) ∧ r.words.length ≤ 1095 ∧ r.words ≠ [] := by
  have hs : lowW "set" := ⟨by decide +kernel, by decide +kernel⟩
  have hw : lowW "show" := ⟨by decide +kernel, by decide +kernel⟩
  cases r with
  | set x s =>
    have h : (nameS x && (s.good && decide (s.depth ≤ 6))) = true := h
    simp only [Bool.and_eq_true, decide_eq_true_eq] at h
    obtain ⟨h1, h2, h3, h4⟩ := name_signs h.1
    refine ⟨fun w hm => ?_, ?_, by simp [Rw.words]⟩
    · rcases List.mem_cons.mp hm with rfl | hm
      · exact hs
      · rcases List.mem_cons.mp hm with rfl | hm
        · exact ⟨by omega, fun c hc => by have := h4 c hc; omega⟩
        · exact words_low s h.2.1 w hm
    · have := words_few h.2.2
      show s.words.length + 1 + 1 ≤ 1095
      omega
  | shw s =>
    have h : (s.good && decide (s.depth ≤ 6)) = true := h
    simp only [Bool.and_eq_true, decide_eq_true_eq] at h
    refine ⟨fun w hm => ?_, ?_, by simp [Rw.words]⟩
    · rcases List.mem_cons.mp hm with rfl | hm
      · exact hw
      · exact words_low s h.1 w hm
    · have := words_few h.2
      show s.words.length + 1 ≤ 1095
      omega
theorem low_no {w : Str} (h : lowW w) {c : Nat} (hc : c < 48) : c ∉ tl w := fun z => by
  have := h.2 c z
  omega
theorem split_line {r : Rw} (h : r.good = true) : Txt.split (lineS r) " " = r.words := by
  obtain ⟨h1, h2, h3⟩ := row_low h
  exact split_join (y := " ") (s := 32) (S := []) (by decide +kernel) (by decide +kernel) h3 fun p hp => low_no (h1 p hp) (by decide)
theorem row_back {r : Rw} (h : r.good = true) : rowT (lineS r) = some r.enc := by
  unfold rowT
  rw [split_line h]
  cases r with
  | set x s =>
    have h : (nameS x && (s.good && decide (s.depth ≤ 6))) = true := h
    simp only [Bool.and_eq_true, decide_eq_true_eq] at h
    have e := sumAt_words s 7 ["set", x] [] h.2.1 (by omega)
    rw [List.append_nil] at e
    have ez : sizeT (Rw.set x s).words = 2 := by
      unfold sizeT
      rw [show (Rw.set x s).words[0]? = some ("set" : Str) from rfl, if_pos rfl]
    unfold rowW
    rw [ez]
    have e : sumAt (Rw.set x s).words 7 2 = some (s.enc, 2 + s.words.length) := e
    rw [e]
    show (if 2 + s.words.length = (Rw.set x s).words.length then _ else _) = _
    rw [if_pos (by show 2 + s.words.length = s.words.length + 1 + 1; omega)]
    rfl
  | shw s =>
    have h : (s.good && decide (s.depth ≤ 6)) = true := h
    simp only [Bool.and_eq_true, decide_eq_true_eq] at h
    have e := sumAt_words s 7 ["show"] [] h.1 (by omega)
    rw [List.append_nil] at e
    have ez : sizeT (Rw.shw s).words = 1 := by
      unfold sizeT
      rw [show (Rw.shw s).words[0]? = some ("show" : Str) from rfl, if_neg (by decide +kernel)]
    unfold rowW
    rw [ez]
    have e : sumAt (Rw.shw s).words 7 1 = some (s.enc, 1 + s.words.length) := e
    rw [e]
    show (if 1 + s.words.length = (Rw.shw s).words.length then _ else _) = _
    rw [if_pos (by show 1 + s.words.length = s.words.length + 1; omega)]
    rfl
theorem line_low {r : Rw} (h : r.good = true) : (lineS r).length ≤ 6570 ∧ (∀ c ∈ tl (lineS r), c = 32 ∨ (48 ≤ c ∧ c ≤ 122)) ∧ tl (lineS r) ≠ [] := by
  obtain ⟨h1, h2, h3⟩ := row_low h
  have hl := join_len (y := " ") (ps := r.words) (n := 5) fun p hp => (h1 p hp).1
  have e1 : (" " : Str).length = 1 := by decide +kernel
  rw [e1] at hl
  refine ⟨by unfold lineS; omega, fun c hc => ?_, fun z => ?_⟩
  · rcases join_mem hc with h | ⟨p, hp, h⟩
    · have e : tl (" " : Str) = [32] := by decide +kernel
      rw [e] at h
      exact .inl (List.mem_singleton.mp h)
    · exact .inr ((h1 p hp).2 c h)
  · have e := tl_joinT " " r.words
    rw [show tl (Txt.join " " r.words) = [] from z] at e
    cases r with
    | set x s =>
      have : joinL (tl (" " : Str)) ((Rw.set x s).words.map tl) = tl ("set" : Str) ++ (tl (" " : Str) ++ joinL (tl (" " : Str)) ((x :: s.words).map tl)) := rfl
      rw [this] at e
      have e3 : tl ("set" : Str) = [115, 101, 116] := by decide +kernel
      rw [e3] at e
      cases e
    | shw s =>
      have e4 : tl ("show" : Str) = [115, 104, 111, 119] := by decide +kernel
      have : ∃ t, joinL (tl (" " : Str)) ((Rw.shw s).words.map tl) = tl ("show" : Str) ++ t := by
        show ∃ t, joinL (tl (" " : Str)) (tl ("show" : Str) :: s.words.map tl) = _
        cases s.words.map tl with
        | nil => exact ⟨[], (List.append_nil _).symm⟩
        | cons a l => exact ⟨_, rfl⟩
      obtain ⟨t, ht⟩ := this
      rw [ht, e4] at e
      cases e
theorem good_row {src : Src} (h : goodS src = true) {r : Rw} (hr : r ∈ src) : r.good = true := by
  unfold goodS at h
  rw [Bool.and_eq_true] at h
  exact List.all_eq_true.mp h.2 r hr
theorem allT_map {α β : Type} {f : α → Option β} {γ : Type} {g : γ → α} {k : γ → β} : ∀ {l : List γ}, (∀ x ∈ l, f (g x) = some (k x)) → allT f (l.map g) = some (l.map k)
  | [], _ => rfl
  | a :: l, h => by
    show (f (g a)).bind (fun b => (allT f (l.map g)).map fun r => b :: r) = _
    rw [h a (List.mem_cons_self ..), allT_map fun x hx => h x (List.mem_cons_of_mem _ hx)]
    rfl
theorem text_low {src : Src} (h : goodS src = true) : (textS src).length ≤ 52568 ∧ ∀ c ∈ tl (textS src), c ≤ 122 := by
  have h8 := goodS_len h
  have hl := join_len (y := "\n") (ps := src.map lineS) (n := 6570) fun p hp => by
    obtain ⟨r, hr, rfl⟩ := List.mem_map.mp hp
    exact (line_low (good_row h hr)).1
  have e1 : ("\n" : Str).length = 1 := by decide +kernel
  rw [e1, List.length_map] at hl
  refine ⟨?_, fun c hc => ?_⟩
  · have : src.length * (6570 + 1) ≤ 8 * (6570 + 1) := Nat.mul_le_mul_right _ h8
    show (Txt.join "\n" (src.map lineS)).length ≤ 52568
    omega
  · rcases join_mem hc with h' | ⟨p, hp, h'⟩
    · have e : tl ("\n" : Str) = [10] := by decide +kernel
      rw [e] at h'
      rw [List.mem_singleton.mp h']
      decide
    · obtain ⟨r, hr, rfl⟩ := List.mem_map.mp hp
      have := (line_low (good_row h hr)).2.1 c h'
      omega
theorem text_back {src : Src} (h : goodS src = true) : rowsT (textS src) = some (src.map Rw.enc) := by
  cases src with
  | nil =>
    have : textS [] = "" := by
      apply ext_tl
      show tl (Txt.join "\n" []) = _
      rw [tl_joinT]
      decide +kernel
    unfold rowsT
    rw [if_pos this]
    rfl
  | cons r l =>
    have hne : textS (r :: l) ≠ "" := fun z => by
      have e := tl_joinT "\n" ((r :: l).map lineS)
      rw [show Txt.join "\n" ((r :: l).map lineS) = "" from z] at e
      have h3 := (line_low (good_row h (List.mem_cons_self ..))).2.2
      have : ∃ t, joinL (tl ("\n" : Str)) (((r :: l).map lineS).map tl) = tl (lineS r) ++ t := by
        show ∃ t, joinL (tl ("\n" : Str)) (tl (lineS r) :: (l.map lineS).map tl) = _
        cases (l.map lineS).map tl with
        | nil => exact ⟨[], (List.append_nil _).symm⟩
        | cons a l => exact ⟨_, rfl⟩
      obtain ⟨t, ht⟩ := this
      rw [ht] at e
      have e0 : tl ("" : Str) = [] := rfl
      rw [e0] at e
      exact h3 (List.append_eq_nil_iff.mp e.symm).1
    unfold rowsT
    rw [if_neg hne]
    have e : Txt.split (textS (r :: l)) "\n" = (r :: l).map lineS := split_join (y := "\n") (s := 10) (S := []) (by decide +kernel) (by decide +kernel) (by simp) fun p hp z => by
      obtain ⟨q, hq, rfl⟩ := List.mem_map.mp hp
      have := (line_low (good_row h hq)).2.1 10 z
      omega
    rw [e]
    exact allT_map fun q hq => row_back (good_row h hq)
/-! what may come of any text is well shaped -/
def okT (t : Str) : Prop := t.length ≤ 60000 ∧ ∀ c ∈ tl t, c < 0x110000
theorem okT_ok {t : Str} (h : okT t) : okD (.str t) = true := by
  unfold okD PyData.strOk
  rw [Bool.and_eq_true, Array.all_eq_true']
  exact ⟨decide_eq_true (by have := h.1; omega), fun c hc => decide_eq_true (h.2 c (Array.mem_def.mp hc))⟩
theorem okT_split {y x p : Str} (hy : isSep y) (h : okT x) (hp : p ∈ Txt.split x y) : okT p := by
  obtain ⟨h1, h2⟩ := split_all hy hp
  exact ⟨Nat.le_trans h2 h.1, fun c hc => h.2 c (h1 c hc)⟩
theorem leaf_ok {w : Str} (h : okT w) : okD (leafT w) = true := by
  unfold leafT
  split
  · rfl
  · exact okT_ok h
theorem parts_ok {f : Nat → Option (PyData × Nat)} (hf : ∀ p q, f p = some q → okD q.1 = true) : ∀ (k p : Nat) (q : List PyData × Nat), partsAt f k p = some q → ∀ d ∈ q.1, okD d = true
  | 0, p, q, h, d, hd => by
    cases h
    cases hd
  | k + 1, p, q, h, d, hd => by
    unfold partsAt at h
    cases e : partsAt f k p with
    | none => rw [e] at h; cases h
    | some z =>
      rw [e] at h
      have h : (f z.2).map (fun r => (z.1 ++ [r.1], r.2)) = some q := h
      cases e2 : f z.2 with
      | none => rw [e2] at h; cases h
      | some y =>
        rw [e2] at h
        cases h
        rcases List.mem_append.mp hd with hd | hd
        · exact parts_ok hf k p z e d hd
        · rw [List.mem_singleton.mp hd]
          exact hf _ _ e2
theorem sum_ok {ws : List Str} (h : ∀ w ∈ ws, okT w) : ∀ (n p : Nat) (q : PyData × Nat), sumAt ws n p = some q → okD q.1 = true
  | 0, p, q, e => by cases e
  | n + 1, p, q, e => by
    unfold sumAt at e
    cases hw : ws[p]? with
    | none => rw [hw] at e; cases e
    | some w =>
      rw [hw] at e
      have e : (if headT w = true then (partsAt (sumAt ws n) (2 + if w = "if" then 1 else 0) (p + 1)).map fun q => (PyData.tuple (.str w :: q.1), q.2) else some (leafT w, p + 1)) = some q := e
      have ow := h w (List.mem_of_getElem? hw)
      split at e
      · cases e2 : partsAt (sumAt ws n) (2 + if w = "if" then 1 else 0) (p + 1) with
        | none => rw [e2] at e; cases e
        | some z =>
          rw [e2] at e
          cases e
          unfold okD
          refine okAll_of fun d hd => ?_
          rcases List.mem_cons.mp hd with rfl | hd
          · exact okT_ok ow
          · exact parts_ok (fun p q => sum_ok h n p q) _ _ _ e2 d hd
      · cases e
        exact leaf_ok ow
theorem row_ok {line : Str} (h : okT line) {d : PyData} (e : rowT line = some d) : okD d = true := by
  unfold rowT rowW at e
  have hw : ∀ w ∈ Txt.split line " ", okT w := fun w hw => okT_split sep_sp h hw
  cases e2 : sumAt (Txt.split line " ") 7 (sizeT (Txt.split line " ")) with
  | none => rw [e2] at e; cases e
  | some q =>
    rw [e2] at e
    have e : (if q.2 = (Txt.split line " ").length then some (PyData.tuple (((Txt.split line " ").take (sizeT (Txt.split line " "))).map PyData.str ++ [q.1])) else none) = some d := e
    split at e
    · cases e
      unfold okD
      refine okAll_of fun z hz => ?_
      rcases List.mem_append.mp hz with hz | hz
      · obtain ⟨w, hw', rfl⟩ := List.mem_map.mp hz
        exact okT_ok (hw w (List.mem_of_mem_take hw'))
      · rw [List.mem_singleton.mp hz]
        exact sum_ok hw _ _ _ e2
    · cases e
theorem allT_mem {α β : Type} {f : α → Option β} : ∀ {l : List α} {r : List β}, allT f l = some r → ∀ b ∈ r, ∃ a ∈ l, f a = some b
  | [], r, e, b, hb => by cases e; cases hb
  | a :: l, r, e, b, hb => by
    have e : (f a).bind (fun b => (allT f l).map fun r => b :: r) = some r := e
    cases e1 : f a with
    | none => rw [e1] at e; cases e
    | some x =>
      rw [e1] at e
      have e : (allT f l).map (fun r => x :: r) = some r := e
      cases e2 : allT f l with
      | none => rw [e2] at e; cases e
      | some z =>
        rw [e2] at e
        cases e
        rcases List.mem_cons.mp hb with rfl | hb
        · exact ⟨a, List.mem_cons_self .., e1⟩
        · obtain ⟨y, hy, h⟩ := allT_mem e2 b hb
          exact ⟨y, List.mem_cons_of_mem _ hy, h⟩
theorem rows_ok {t : Str} (h : okT t) {rs : List PyData} (e : rowsT t = some rs) : okD (.tuple rs) = true := by
  unfold rowsT at e
  split at e
  · cases e; rfl
  · unfold okD
    refine okAll_of fun d hd => ?_
    obtain ⟨l, hl, h'⟩ := allT_mem e d hd
    exact row_ok (okT_split sep_nl h hl) h'
/-! what the defs promise -/
def F_words (n : Nat) (ds : List PyData) (d : PyData) : Prop := ∃ s : Sm, ds = [s.enc] ∧ s.good = true ∧ s.depth ≤ n ∧ s.depth ≤ 6 ∧ d = .list (s.words.map PyData.str)
def F_textof (ds : List PyData) (d : PyData) : Prop := ∃ src, ds = [encS src] ∧ goodS src = true ∧ d = .str (textS src)
def F_shown (ds : List PyData) (o : Option PyData) : Prop := ∃ src, ds = [encS src] ∧ goodS src = true ∧ o = some (.str (textS src))
def pairD (q : PyData × Nat) : PyData := .tuple [q.1, .int ((q.2 : Nat) : Int)]
def F_sumat (n : Nat) (ds : List PyData) (o : Option PyData) : Prop := ∃ (ws : List Str) (p : Nat), ds = [.list (ws.map PyData.str), .int (p : Int), .int ((n : Int) - 1)] ∧ (∀ w ∈ ws, okT w) ∧ n ≤ 7 ∧ o = (sumAt ws n p).map pairD
def F_rowof (ds : List PyData) (o : Option PyData) : Prop := ∃ t, ds = [.str t] ∧ okT t ∧ o = rowT t
def F_read (ds : List PyData) (o : Option PyData) : Prop := (∃ d, ds = [d] ∧ isT d "str" = false ∧ o = none) ∨ ∃ t, ds = [.str t] ∧ okT t ∧
  ((rowsT t = none ∧ o = none) ∨ ∃ rs, rowsT t = some rs ∧ ((isSource (.tuple rs) = false ∧ o = none) ∨ ∃ src, PyData.tuple rs = encS src ∧ goodS src = true ∧ o = if textS src = t then some (encS src) else none))
theorem read_ex {t : Str} (h : okT t) : ∃ o, F_read [.str t] o ∧ ∀ d, o = some d → ∃ src, d = encS src ∧ goodS src = true ∧ textS src = t := by
  cases e : rowsT t with
  | none => exact ⟨none, .inr ⟨t, rfl, h, .inl ⟨e, rfl⟩⟩, fun d z => nomatch z⟩
  | some rs =>
    cases q : isSource (.tuple rs) with
    | false => exact ⟨none, .inr ⟨t, rfl, h, .inr ⟨rs, e, .inl ⟨q, rfl⟩⟩⟩, fun d z => nomatch z⟩
    | true =>
      obtain ⟨src, h1, h2⟩ := isSource_dec _ q
      refine ⟨_, .inr ⟨t, rfl, h, .inr ⟨rs, e, .inr ⟨src, h1, h2, rfl⟩⟩⟩, fun d z => ?_⟩
      split at z
      · rename_i ht
        cases z
        exact ⟨src, rfl, h2, ht⟩
      · cases z
theorem read_back {src : Src} (h : goodS src = true) : F_read [.str (textS src)] (some (encS src)) := by
  obtain ⟨h1, h2⟩ := text_low h
  refine .inr ⟨textS src, rfl, ⟨by omega, fun c hc => by have := h2 c hc; omega⟩, .inr ⟨_, text_back h, .inr ⟨src, rfl, h, ?_⟩⟩⟩
  rw [if_pos rfl]
end LC

/-! A comprehension out of whose element a call raises: own rule. -/
namespace LC
open PySem PySem.Spec PyProof.Rows L2 Evl
/-- behind the loop, the comprehension's own env in sight -/
def cPost (M : Model) (A : Around) (E : Value → Shared → Prop) (Q : Value → Shared → Prop) (acc : Value) (ce : Env) : Result → Shared → Prop
  | .ok _, t => ∃ m, t.heap.Ns ce.locals m ∧ ∀ h1, Heap.SameBut ce.locals t.heap h1 → Q acc { t with heap := h1 }
  | .error x, t => ∃ m, t.heap.Ns ce.locals m ∧ ∀ h1, Heap.SameBut ce.locals t.heap h1 → wpAny M A (PySem.passOn "comprehension.variables-let-go" x ce : Sem Value) (fun _ _ => False) E { t with heap := h1 }
theorem comp_x {M : Model} {A : Around} {E : Value → Shared → Prop} {s : Shared} {env : Env} {e : Expr} {scope : Scope} {pos : Pos} {newAcc first : Sem Value} {c0 : Comprehension} {cs : List Comprehension} {cl : List (Str × Addr)} {Q : Value → Shared → Prop}
    (k0 : clausesOf e = c0 :: cs) (k1 : ∀ x, foldedSetIterable c0.iter env x = pure x) (k2 : closureFor scope env = pure cl) (k3 : scope.kind = .function) (k4 : ∀ x ∈ scope.names, x.2 = .local → scope.names.lookup x.1 = some .local)
    (h : wpAny M A first (fun x t1 => wpAny M A (pyIter x) (fun it t2 => wpAny M A newAcc (fun acc t3 => wpAny M A (newFunctionEnv scope env.globals cl [] env.qual none .none (some env)) (fun ce t4 =>
      codeAny M A (.compStart e 0 it acc { ce with scope := relabel scope env }) (cPost M A E Q acc { ce with scope := relabel scope env }) t4) E t3) E t2) E t1) E s) :
    wpAny M A (comprehension e scope env pos newAcc false first none) Q E s := by
  unfold comprehension
  rw [k2, k0]
  refine wpAny_bind (wpAny_mono h (fun x t1 g1 => wpAny_bind (wpAny_standAt (wpAny_bind (wpAny_of_eq (k1 x) (wpAny_bind (wpAny_holding (wpAny_mono g1 (fun it t2 g2 => wpAny_standIf (wpAny_bind (wpAny_mono g2 (fun acc t3 g3 => wpAny_bind (wpAny_pure (wpAny_bind (wpAny_mono g3 (fun ce t4 g4 => ?_) fun _ _ z => z)))) fun _ _ z => z))) fun _ _ z => z))))))) fun _ _ z => z)
  dsimp only
  have loc : ∀ y ∈ (scope.names.filter fun y => (y.2 == .local || y.2 == .cell) && y.1 != (".0" : Str)).reverse, y.2 = .local → Env.kindOf { ce with scope := relabel scope env } y.1 = some .local := fun y hy hl =>
    lookup_relabel_local (k4 y (List.mem_filter.mp (List.mem_reverse.mp hy)).1 hl)
  refine wpAny_holding (wpAny_bind (wpAny_attempt (wpAny_holding (wpAny_run (codeAny_mono g4 fun r t hr => ?_)))))
  cases r with
  | ok f =>
    obtain ⟨m, hn, hr⟩ := hr
    exact wpAny_bind (wpAny_holding (wpAny_comp_letGo (cenv := { ce with scope := relabel scope env }) k3 _ t m loc hn fun h1 m1 _ sb => wpAny_pure (hr h1 sb)))
  | error x =>
    obtain ⟨m, hn, hr⟩ := hr
    exact wpAny_bind (wpAny_holding (wpAny_comp_letGo (cenv := { ce with scope := relabel scope env }) k3 _ t m loc hn fun h1 m1 _ sb => wpAny_mono (hr h1 sb) (fun _ _ f => f.elim) fun _ _ y => y))
section
variable {X : Cx} {pins : List (Addr × Obj)} {σ : L2.St} {H : Hp} {s s' : Shared} {W : WX} {E : XK} {C : Addr} {ce : Env} {u : Value} {Q : Value → Shared → Prop} {acc : Value}
/-- what a call in the element lets out leaves the comprehension, and is in the def's air -/
theorem comp_out (I : Inv X pins σ H s) (hs : X.stack = X.env :: X.outer) (hf : X.env.frame = some X.env.locals) (tk : Takes X W) (hW : ∀ cls d H', E cls d H' → W cls d σ H') (fp : FpOk X pins H C) (hCs : C ∉ frs X.stack) {m : Str → Option Value} (hn : s.heap.Ns C m) (ef : ce.frame = X.env.frame) (el : ce.locals = C)
    (c : L2.CX X.prog X.w X.stack H s E u s') : notedBy (model X.prog X.w) X.A ce (fun e t => cPost (model X.prog X.w) X.A X.xe Q acc ce (.error e) t) u s' := by
  obtain ⟨a, B, H', cls, d, rfl, fl, hok, ub, na, os, ag, hE⟩ := c
  have hfr : X.A.frames = some (X.env :: X.outer) := by rw [I.ok.frames, hs]
  have en : noteFrame (.ref a) ce = noteFrame (.ref a) X.env := by
    unfold noteFrame PySem.frameOf
    rw [ef]
  unfold notedBy
  rw [en]
  have fl' := fl
  rw [hs] at fl'
  obtain ⟨oC, esC, epC, hC, rC⟩ := hn
  have hBC : B.get? C = some oC := ub.keep C oC hC fp.1 hCs
  have hC' : H' C = none := ub.free C oC hC fp.1
  refine HandSPX.looks_onZ Zc.steady hfr hf fl' fun h1 hd1 up1 => ?_
  refine ⟨m, ?_, fun h2 sb => ?_⟩
  · rw [el]
    exact ⟨oC, esC, epC, hd1.1 _ _ hBC, rC⟩
  rw [el] at sb
  obtain ⟨B2, b1, b2⟩ := restrict B fun b => decide (b ≠ C)
  have bb : ∀ b o, B2.get? b = some o → B.get? b = some o ∧ b ≠ C := fun b o e => by
    by_cases q : b = C
    · rw [b2 b (decide_eq_false (not_not_intro q))] at e
      cases e
    · rw [b1 b (decide_eq_true q)] at e
      exact ⟨e, q⟩
  have bn : ∀ b, B.get? b = none → B2.get? b = none := fun b e => by
    cases q : B2.get? b with
    | none => rfl
    | some o =>
      rw [(bb b o q).1] at e
      cases e
  have dict : ∀ vs, oC.data ≠ .fields vs := fun vs z => by rw [rC.1] at z; cases z
  have hd2 : HandSPX.HeldZ B2 (X.env :: X.outer) a (Zc cls d) X.env.locals h2 := by
    obtain ⟨x1, x2, x3, oe, vs, T, oT, ts, y1, y2, y3, y4, y5, y6, y7, y8, y9⟩ := hd1
    have sa : ∀ b, B.get? b = none → h2.get? b = h1.get? b := fun b e => sb.2 b fun q => by rw [q, hBC] at e; cases e
    refine ⟨fun b o e => ?_, bn a x2, ?_, oe, vs, T, oT, ts, (sa a x2).trans y1, y2, y3, y4, bn T y5, y6, (sa T y5).trans y7, y8, y9⟩
    · obtain ⟨e1, e2⟩ := bb b o e
      exact (sb.2 b e2).trans (x1 b o e1)
    · have ff : ∀ {l : List Env}, h1.FunFrames B l → h2.FunFrames B2 l := fun {l} => by
        induction l with
        | nil => exact fun _ => trivial
        | cons e l ih =>
          rintro ⟨q1, ⟨L, o, q2, q3, q4, q5⟩, q6⟩
          exact ⟨q1, ⟨L, o, q2, bn L q3, (sa L q3).trans q4, q5⟩, ih q6⟩
      exact ff x3
  have h3 := hd2
  obtain ⟨x1, x2, x3, oe, vs, T, oT, ts, y1, y2, y3, y4, y5, y6, y7, y8, y9⟩ := h3
  unfold PySem.passOn
  refine wpAny_bind (wpAny_field y1 y3 y4 ?_)
  rw [if_neg (show ¬ ((Value.ref T == Value.none) = true) from by simp)]
  rw [ef, hf]
  refine wpAny_bind (HandSPX.setFlight_onZ (s := { s' with heap := h2 }) hd2 fun h4 hd4 up4 => wpAny_throw (tk _ _ ?_))
  obtain ⟨G, g1, g2⟩ := restrict h4 fun b => (B2.get? b).isSome || decide (b ∈ frs X.stack)
  have gB : ∀ b o, B2.get? b = some o → G.get? b = some o := fun b o e => by
    rw [g1 b (by simp [e])]
    exact hd4.1 b o e
  have og : ∀ b o, G.get? b = some o → h4.get? b = some o ∧ ((B2.get? b).isSome = true ∨ b ∈ frs X.stack) := fun b o e => by
    cases q : ((B2.get? b).isSome || decide (b ∈ frs X.stack)) with
    | false => rw [g2 b q] at e; cases e
    | true =>
      rw [g1 b q] at e
      exact ⟨e, by simpa [Bool.or_eq_true] using q⟩
  have slot : ∀ b o, s.heap.get? b = some o → b ∈ frs X.stack → ∃ sl, G.get? b = some { o with slots := sl } := fun b o e hb => by
    obtain ⟨sl, q⟩ := ub.slot b o e hb
    obtain ⟨_, o0, q0, nf⟩ := I.stack.mem hb
    rw [e] at q0
    cases q0
    obtain ⟨sl1, q1⟩ := up1 b _ q nf
    have q2 := (sb.2 b fun z => hCs (by rw [← z]; exact hb)).trans q1
    obtain ⟨sl3, q3⟩ := up4 b _ q2 nf
    exact ⟨sl3, by rw [g1 b (by simp [hb])]; exact q3⟩
  have hokG : HOk X.prog X.w H' G := fun b o q => (hok b o q).stay (fun c v hc r => by
    refine gB c v ?_
    rw [b1 c (decide_eq_true ?_)]
    · exact r
    · intro z
      rcases hc with hc | hc
      · rw [← hc, z, hC'] at q; cases q
      · rw [z, hC'] at hc; cases hc) (fun _ r => r) fun _ _ r => r
  refine ⟨a, B2, { s with heap := G, gens := s'.gens, drawn := s'.drawn, toks := s'.toks }, pins, σ, H', cls, d, rfl, ?_, fun b o e hb => ?_, Heap.UpToSlots.of_keeps fun b o e => (og b o e).1, .inr (.inr (by rw [hs]; exact hd4)), na, os, ag, hW _ _ _ hE⟩
  · refine I.call (ch := [C]) ⟨fun b o e n hb hc => gB b o ?_, fun b o e n hb _ => slot b o e hb, fun b o e n _ => ub.free b o e n, fun b o e hc => ?_, ub.tups, ub.frzs, ub.tbls⟩ hokG ag fun b hb => ?_
    · rw [b1 b (decide_eq_true (by simpa using hc))]
      exact ub.keep b o e n hb
    · by_cases hb : b ∈ frs X.stack
      · obtain ⟨sl, q⟩ := slot b o e hb
        exact ⟨_, q⟩
      · obtain ⟨o', q⟩ := ub.there b o e hb
        exact ⟨o', gB b o' (by rw [b1 b (decide_eq_true (by simpa using hc))]; exact q)⟩
    · have e : b = C := by simpa using hb
      subst e
      exact ⟨fp.2.2.2.1, fp.2.1, fp.2.2.2.2.1, fp.2.2.2.2.2⟩
  · obtain ⟨e', h⟩ := og b o e
    rcases h with h | h
    · obtain ⟨o', q⟩ := Option.isSome_iff_exists.mp h
      have z := hd4.1 b o' q
      rw [e'] at z
      cases z
      exact q
    · exact absurd h hb
theorem lc_x {elt tg iter : Expr} {ifs : List Expr} {scope : Scope} {own : List (Str × Nat)} {pos pos' : Pos} {wi : TI} {g : TG} {tt : TT} {te : TE} {QV : VK} {Qf : Value → Shared → Prop}
    (hc : X.calm = true) (hN : X.N.Nodup) (hs : X.stack = X.env :: X.outer) (hf : X.env.frame = some X.env.locals) (tk : Takes X (fun cls d _ H => E cls d H)) (I : Inv X pins σ H s) (hi : PI X tg iter wi) (ok : BlkOk X.N X.env.scope scope own)
    (hg : ∀ (t : Shared) (H : Hp) (C : Addr) (cl : List (Str × Addr)) (fp : List Addr), PG (X.blk t H scope (compEnvC scope cl C X.env) fp) tg g)
    (ht : ∀ (t : Shared) (H : Hp) (C : Addr) (cl : List (Str × Addr)) (fp : List Addr), PTs (X.blk t H scope (compEnvC scope cl C X.env) fp) ifs tt)
    (he : ∀ (t : Shared) (H : Hp) (C : Addr) (cl : List (Str × Addr)) (fp : List Addr) (xe : Value → Shared → Prop), Passes (L2.CX X.prog X.w) ((X.blk t H scope (compEnvC scope cl C X.env) fp).wish xe) E → PE ((X.blk t H scope (compEnvC scope cl C X.env) fp).wish xe) elt te)
    (hfs : ∀ x, foldedSetIterable iter X.env x = pure x) (h : tLc wi g tt te (own.map (·.2)) σ H QV)
    (fin : ∀ D C t m H', Inv X pins σ H' t → QV (.ref D) H' → t.heap.Ns C m → FpOk X pins H' C → ∀ h1, Heap.SameBut C t.heap h1 → Qf (.ref D) { t with heap := h1 }) :
    wpAny (model X.prog X.w) X.A (comprehension (.ListComp elt [⟨tg, iter, ifs, 0⟩] scope pos) scope X.env pos' (newList []) false (eval iter X.env) none) Qf X.xe s := by
  have fr0 : ∀ y ∈ scope.names, y.2 = .free → ∃ c, X.env.cells.lookup y.1 = some c := fun y hy e => (ok.free y hy e).elim (fun k => I.ok.has _ (.inl k)) fun k => I.ok.has _ (.inr k)
  refine comp_x rfl hfs (closure_ok fr0) ok.kind (fun y hy e => by rw [ok.uniq y hy, e]) (thn (hi.run pins s σ H _ I h) fun xv t1 hx => thn hx fun itv t2 g2 => ?_)
  obtain ⟨it, fp, tn, J, H2, e, I2, T, st2, f2, q⟩ := g2
  subst e
  refine wpAny_newObj_type (newEnv_comp ?_) (by show 0 ≤ sizeLine; decide)
  generalize hD : t2.heap.objs.size = D
  have hDn : H2 D = none := I2.hok.fresh (Nat.le_of_eq hD)
  obtain ⟨W, ⟨m0, w0⟩, turn⟩ := q D hDn
  generalize et3 : ({ t2 with heap := t2.heap.push { cls := .type "list", data := .seq ([] : List Value).toArray } } : Shared) = t3
  have I3 : Inv X pins σ (upd H2 D (.lst [])) t3 := by
    rw [← et3]
    refine I2.laid (t' := t2.toks) (fun b o z => Heap.get?_push_of_some _ z) (Nat.le_of_eq hD) ⟨Nat.zero_le _, [], 0, .nil, ?_⟩
    rw [← hD]
    exact Heap.get?_push_size _ rfl
  have h3 : t3.heap = t2.heap.push { cls := .type "list", data := .seq ([] : List Value).toArray } := by rw [← et3]
  have f3 : ∀ b ∈ fp, FpOk X pins (upd H2 D (.lst [])) b ∧ b < t3.heap.objs.size := fun b hb => by
    obtain ⟨o, z, _⟩ := T.obj _ _ st2 b hb
    have hlt := Heap.lt_size z
    refine ⟨⟨?_, (f2 b hb).2⟩, by rw [h3, Heap.size_push]; exact Nat.lt_succ_of_lt hlt⟩
    rw [upd_ne (by rw [← hD]; exact Nat.ne_of_lt hlt)]
    exact (f2 b hb).1
  have st3 : tn 0 t3.heap := T.keep _ _ _ st2 fun b _ o z => by rw [h3]; exact Heap.get?_push_of_some _ z
  have I4 := block_start I3 ok hN f3
  have pg := hg t3 (upd H2 D (.lst [])) t3.heap.objs.size (cellsFrom (t3.heap.objs.size + 1) scope.names (cloFrom X.env.cells scope.names [])) fp
  have pt := ht t3 (upd H2 D (.lst [])) t3.heap.objs.size (cellsFrom (t3.heap.objs.size + 1) scope.names (cloFrom X.env.cells scope.names [])) fp
  have pe := he t3 (upd H2 D (.lst [])) t3.heap.objs.size (cellsFrom (t3.heap.objs.size + 1) scope.names (cloFrom X.env.cells scope.names [])) fp
  show codeAny _ _ (.compStart (.ListComp elt [⟨tg, iter, ifs, 0⟩] scope pos) 0 (.ref it) (.ref D) (compEnvC scope (cellsFrom (t3.heap.objs.size + 1) scope.names (cloFrom X.env.cells scope.names [])) t3.heap.objs.size X.env)) (cPost (model X.prog X.w) X.A X.xe Qf (.ref D) (compEnvC scope (cellsFrom (t3.heap.objs.size + 1) scope.names (cloFrom X.env.cells scope.names [])) t3.heap.objs.size X.env)) { t3 with heap := pushCells (t3.heap.push { cls := .type "dict", data := .dict #[] }) scope.names }
  have nfp : ∀ b ∈ fp, (upd H2 D (.lst [])) b = none := fun b hb => (f3 b hb).1.1
  generalize ece : compEnvC scope (cellsFrom (t3.heap.objs.size + 1) scope.names (cloFrom X.env.cells scope.names [])) t3.heap.objs.size X.env = ce at I4 pg pt pe ⊢
  have cL : ce.locals = t3.heap.objs.size := by subst ece; rfl
  have cF : ce.frame = X.env.frame := by subst ece; rfl
  generalize eH3 : upd H2 D (.lst []) = H3 at I3 I4 pg pt pe w0 nfp f3
  generalize et4 : ({ t3 with heap := pushCells (t3.heap.push { cls := .type "dict", data := .dict #[] }) scope.names } : Shared) = t4 at I4 ⊢
  have st4 : tn 0 t4.heap := T.keep _ _ _ st3 fun b _ o z => by rw [← et4]; exact pushCells_keeps _ _ _ _ (Heap.get?_push_of_some _ z)
  have stat : ∀ {σ' : L2.St} {H' : Hp} {t : Shared}, Inv (X.blk t3 H3 scope ce fp) [] σ' H' t → (∀ b ∈ fp, H' b = none) → ∀ b ∈ fp, FpOk (X.blk t3 H3 scope ce fp) [] H' b := fun {σ' H' t} I' hn b hb =>
    ⟨hn b hb, (I'.ok.exf b hb).1, I'.ok.exfs b hb, .inl hb, fun x c z => (I'.ok.exf b hb).2 x c z, fun p hp => absurd (show p ∈ ([] : List (Addr × Obj)) ++ [] from hp) (by simp)⟩
  have back : ∀ {xe : Value → Shared → Prop} {ps : List (Addr × Obj)} {σ' : L2.St} {H' : Hp} {t : Shared}, Inv ((X.blk t3 H3 scope ce fp).wish xe) ps σ' H' t → Inv X pins σ H' t ∧ (∃ m, t.heap.Ns t3.heap.objs.size m) ∧ FpOk X pins H' t3.heap.objs.size := fun {xe ps σ' H' t} I6 => by
    have nC : H' t3.heap.objs.size = none := by
      have z : H' ce.locals = none := I6.free
      rw [cL] at z
      exact z
    obtain ⟨m, hn, _⟩ := I6.loc
    have hn : t.heap.Ns ce.locals m := hn
    rw [cL] at hn
    exact ⟨I3.call' (ch := fp) I6.os I6.base I6.hok I6.bare fun b hb => ⟨(f3 b hb).1.2.2.2.1, (f3 b hb).1.2.1, (f3 b hb).1.2.2.2.2.1, (f3 b hb).1.2.2.2.2.2⟩, ⟨m, hn⟩, I3.fpOk (Nat.le_refl _) nC⟩
  have hCs : t3.heap.objs.size ∉ frs X.stack := fun hm => by
    obtain ⟨_, o, z, _⟩ := I3.stack.mem hm
    exact Nat.lt_irrefl _ (Heap.lt_size z)
  have pe := pe (notedBy (model X.prog X.w) X.A ce fun e t => cPost (model X.prog X.w) X.A X.xe Qf (.ref D) ce (.error e) t) (fun ps σ' H' t e t' I6 c => by
    obtain ⟨I7, ⟨m, hn⟩, fpC⟩ := back I6
    exact comp_out (W := fun cls d _ H => E cls d H) I7 hs hf tk (fun _ _ _ z => z) fpC hCs hn cF cL c)
  have loop : codeAny (model X.prog X.w) X.A (.compLoop (.ListComp elt [⟨tg, iter, ifs, 0⟩] scope pos) 0 (.ref it) (.ref D) ce) (cPost (model X.prog X.w) X.A X.xe Qf (.ref D) ce) t4 := by
    refine compLoop_any (fun n t => ∃ i H', Inv (X.blk t3 H3 scope ce fp) [] (wipe σ (own.map (·.2))) H' t ∧ tn i t.heap ∧ (∀ b ∈ fp, H' b = none) ∧ W i n H') ?_ m0 ⟨0, H3, I4, st4, nfp, w0⟩
    rintro n t5 ⟨i, H5, I5, st5, n5, w5⟩
    rcases turn i n H5 w5 with ⟨stop, qq⟩ | ⟨go, Nx, hNx, step⟩
    · refine thnF (T.done (X.blk t3 H3 scope ce fp) rfl rfl rfl hc i [] t5 _ H5 (fun _ _ => False) I5 (stat I5 n5) st5 stop) fun r t6 ⟨hr, I6⟩ => ?_
      subst hr
      obtain ⟨I7, ⟨m, hn⟩, fpC⟩ := back (xe := fun _ _ => False) I6
      refine ⟨m, by rw [cL]; exact hn, fun h1 sb => ?_⟩
      rw [cL] at sb
      exact fin D t3.heap.objs.size t6 m H5 I7 qq hn fpC h1 sb
    · refine thnF (T.item (X.blk t3 H3 scope ce fp) rfl rfl rfl hc i [] t5 _ H5 (fun _ _ => False) I5 (stat I5 n5) st5 go) fun r t6 ⟨u, hr, h6⟩ => ?_
      subst hr
      refine thnF h6 fun _ t7 ⟨x, H7, I7, r7, y7, st7, n7⟩ => ?_
      have I7' := I7.pinned (stat I7 n7) (T.obj _ _ st7)
      refine thnF (pg.run _ t7 _ H7 x u _ I7' r7 (step x H7 y7)) fun _ t8 ⟨σ8, H8, I8, hw8, q8⟩ => ?_
      refine thnF (pt.run _ t8 σ8 H8 _ I8 q8) fun b t9 ⟨H9, I9, q9⟩ => ?_
      have over : ∀ {t : Shared} {H' : Hp}, Inv (X.blk t3 H3 scope ce fp) ([] ++ pinsAt fp t7.heap) σ8 H' t → Nx H' → ∃ m, m < n ∧ ∃ i H', Inv (X.blk t3 H3 scope ce fp) [] (wipe σ (own.map (·.2))) H' t ∧ tn i t.heap ∧ (∀ b ∈ fp, H' b = none) ∧ W i m H' := fun {t H'} I' nx => by
        obtain ⟨m', hm, w'⟩ := hNx H' nx
        have pin' : ∀ b ∈ fp, ∀ o, t7.heap.get? b = some o → t.heap.get? b = some o ∧ H' b = none := fun b hb o z =>
          let y := I'.pin (b, o) (List.mem_append_right _ (List.mem_append_right _ (mem_pinsAt hb z)))
          ⟨y.1, y.2.1⟩
        have hl : (wipe σ (own.map (·.2))).length = σ8.length := by rw [← hw8, wipe_length]
        refine ⟨m', hm, i + 1, H', (I'.unpinned (pins := [])).weak hl (fun j v z => ?_), T.keep _ _ _ st7 fun b hb o z => (pin' b hb o z).1, fun b hb => ?_, w'⟩
        · rw [← hw8] at z
          exact (wipe_some z).1
        · obtain ⟨o, z, _⟩ := T.obj _ _ st7 b hb
          exact (pin' b hb o z).2
      cases b with
      | false =>
        simp only [Bool.false_eq_true, if_false] at q9 ⊢
        exact over I9 q9
      | true =>
        simp only [if_true] at q9 ⊢
        refine thn (pe.run _ t9 σ8 H9 _ (Inv.unwish (X := (X.blk t3 H3 scope ce fp).wish _) (E := fun _ _ => False) I9) q9) fun z t10 ⟨yv, H10, I10, r10, acc, hD10, hz10, nx⟩ => ?_
        exact app_ok (X := (X.blk t3 H3 scope ce fp).wish _) I10 hD10 hz10 r10 fun t11 I11 => over (Inv.unwish (X := X.blk t3 H3 scope ce fp) I11) nx
  exact codeAny_compStart_list loop (T.self X.A 0 _ _ _ st4 loop)
/-- as a value -/
theorem pe_lcX {elt tg iter : Expr} {ifs : List Expr} {scope : Scope} {own : List (Str × Nat)} {pos : Pos} {wi : TI} {g : TG} {tt : TT} {te : TE}
    (hc : X.calm = true) (hN : X.N.Nodup) (hs : X.stack = X.env :: X.outer) (hf : X.env.frame = some X.env.locals) (tk : Takes X (fun cls d _ H => E cls d H)) (hi : PI X tg iter wi) (ok : BlkOk X.N X.env.scope scope own)
    (hg : ∀ (t : Shared) (H : Hp) (C : Addr) (cl : List (Str × Addr)) (fp : List Addr), PG (X.blk t H scope (compEnvC scope cl C X.env) fp) tg g)
    (ht : ∀ (t : Shared) (H : Hp) (C : Addr) (cl : List (Str × Addr)) (fp : List Addr), PTs (X.blk t H scope (compEnvC scope cl C X.env) fp) ifs tt)
    (he : ∀ (t : Shared) (H : Hp) (C : Addr) (cl : List (Str × Addr)) (fp : List Addr) (xe : Value → Shared → Prop), Passes (L2.CX X.prog X.w) ((X.blk t H scope (compEnvC scope cl C X.env) fp).wish xe) E → PE ((X.blk t H scope (compEnvC scope cl C X.env) fp).wish xe) elt te)
    (hfs : ∀ x, foldedSetIterable iter X.env x = pure x := by intro _; rfl) : PE X (.ListComp elt [⟨tg, iter, ifs, 0⟩] scope pos) (tLc wi g tt te (own.map (·.2))) := by
  refine ⟨fun pins s σ H Q I h => ?_⟩
  rw [eval_ListComp]
  refine lc_x hc hN hs hf tk I hi ok hg ht he hfs h fun D C t m H' I' q hn f h1 sb => ?_
  obtain ⟨f0, f1, f2, f3, f4, f5⟩ := f
  exact ⟨.ref D, H', I'.turned (t' := t.toks) (fun b o hb z => (sb.2 b hb).trans z) f0 f1 f3 f4 f5, rfl, q⟩
end
end LC

namespace LC
open PySem PySem.Spec PyProof.Rows L2 Evl TL
/-! ### rules for texts -/
abbrev rJoin (K : Frag) : V → List V → Hp → VK → Prop := fun x xs H Q => ∃ a p, ∃ ys : List Str, x = .str a ∧ xs = [.ref p] ∧ (SqL K H p (ys.map V.str) ∨ SqT K H p (ys.map V.str)) ∧ (ys.map (·.length)).sum + ys.length * a.length ≤ 16777216 ∧ Q (.str (Txt.join a ys)) H
abbrev rSplit : V → List V → Hp → VK → Prop := fun x xs H Q => ∃ a b, x = .str a ∧ xs = [.str b] ∧ (b.length == 0) = false ∧ a.length + 2 ≤ sizeLine ∧ rNewStrs (Txt.split a b) H Q
abbrev rStrU : List V → Hp → VK → Prop := fun xs H Q => (∃ i : Int, xs = [.int i] ∧ i.natAbs.log2 < 1920 ∧ Q (.str (toString i)) H) ∨ ∃ a, xs = [.str a] ∧ Q (.str a) H
abbrev rIntS : List V → Hp → VK → Prop := fun xs H Q => ∃ a n, xs = [.str a] ∧ PySem.intText? a = some n ∧ a.length ≤ 640 ∧ Q (.int n) H
def rep7 (a : Str) : Str := ⟨(List.replicate 7 a.cps).foldl (· ++ ·) #[]⟩
abbrev rMul7 : R2 := fun x y H Q => ∃ a, x = .str a ∧ y = .int 7 ∧ 1 ≤ a.length ∧ a.length ≤ 1000 ∧ Q (.str (rep7 a)) H
theorem rep7_len (a : Str) : (rep7 a).length = 7 * a.length := by
  unfold rep7 Str.length
  simp [List.replicate]
  omega
theorem allT_snoc {α β : Type} {f : α → Option β} {a : α} {b : β} : ∀ {l : List α} {r : List β}, allT f l = some r → f a = some b → allT f (l ++ [a]) = some (r ++ [b])
  | [], r, h, e => by
    cases h
    show (f a).bind _ = _
    rw [e]
    rfl
  | x :: l, r, h, e => by
    have h : (f x).bind (fun b => (allT f l).map fun r => b :: r) = some r := h
    cases e1 : f x with
    | none => rw [e1] at h; cases h
    | some y =>
      rw [e1] at h
      have h : (allT f l).map (fun r => y :: r) = some r := h
      cases e2 : allT f l with
      | none => rw [e2] at h; cases h
      | some z =>
        rw [e2] at h
        cases h
        show (f x).bind (fun b => (allT f (l ++ [a])).map fun r => b :: r) = _
        rw [e1, allT_snoc e2 e]
        rfl
theorem allT_none {α β : Type} {f : α → Option β} {a : α} : ∀ {l : List α} {i : Nat}, l[i]? = some a → f a = none → allT f l = none
  | [], i, h, _ => by cases h
  | x :: l, 0, h, e => by
    have h : some x = some a := h
    cases h
    show (f a).bind _ = none
    rw [e]
    rfl
  | x :: l, i + 1, h, e => by
    show (f x).bind (fun b => (allT f l).map fun r => b :: r) = none
    rw [allT_none (l := l) (i := i) h e]
    cases f x <;> rfl
theorem allT_len {α β : Type} {f : α → Option β} : ∀ {l : List α} {r : List β}, allT f l = some r → r.length = l.length
  | [], r, h => by cases h; rfl
  | x :: l, r, h => by
    have h : (f x).bind (fun b => (allT f l).map fun r => b :: r) = some r := h
    cases e1 : f x with
    | none => rw [e1] at h; cases h
    | some y =>
      rw [e1] at h
      have h : (allT f l).map (fun r => y :: r) = some r := h
      cases e2 : allT f l with
      | none => rw [e2] at h; cases h
      | some z =>
        rw [e2] at h
        cases h
        rw [List.length_cons, List.length_cons, allT_len e2]
section
variable {X : Cx} {K : Frag} {o e : Expr} {to te : TE}
theorem kJoin {apos pos : Pos} (h : X.K = K) (ho : PE X o to) (he : PE X e te) (hs : starEach [e] X.env = [(false, eval e X.env)] := by rfl) (hbase : attributeBase o "join" X.env (eval o X.env) = eval o X.env := by rfl) (hline : (apos.endLine == pos.line) = true := by rfl) :
    PE X (.Call (.Attribute o "join" apos) [e] [] pos) (tM1 (rJoin K) to te) := by
  subst h
  exact pe_join ho he hs hbase hline
theorem kStr : CallR X (.type "str") rStrU := by
  intro pins s σ H xs us Q I r h
  rcases h with h | h
  · exact call_str_int pins s σ H xs us Q I r h
  · exact SkE.call_str_str pins s σ H xs us Q I r h
theorem op_mul7 : OpR X (binaryOp .Mult) rMul7 := by
  intro pins s σ H x y v u Q I rx ry h
  obtain ⟨a, rfl, rfl, h1, h2, q⟩ := h
  obtain ⟨t, rfl⟩ := rx
  obtain ⟨t', rfl⟩ := ry
  have hn : ¬ (((7 : Int) == 1 || a.length == 0) = true) := by
    rw [Bool.or_eq_true]
    rintro (h | h)
    · cases h
    · have := beq_iff_eq.mp h
      omega
  have hl : Builtin.Str.tooLong (a.length * (7 : Int).toNat) = false := by
    show decide _ = false
    exact decide_eq_false (by show ¬ (a.length * 7 > _); have : sizeLine = 2 ^ 24 := rfl; omega)
  refine PySem.P.mul_str (by decide) (fun _ _ => by show ¬ (a.length : Int) > (2 ^ 63 - 1) / 7; omega) (fun _ _ => hl) ?_
  rw [if_neg (by decide), if_neg hn]
  refine ⟨?_, ⟨.str (rep7 a), H, I.tok _, ⟨_, rfl⟩, q⟩⟩
  show (rep7 a).length ≤ sizeLine
  rw [rep7_len]
  have : sizeLine = 2 ^ 24 := rfl
  omega
end
section
variable {K : Frag} {σ : L2.St} {H : Hp} {te ta tb tl : TE} {j : Nat} {vs : List Nat}
theorem dt_strsV {A : Hp} : ∀ (ys : List Str), DtAll K A (ys.map V.str) (ys.map PyData.str)
  | [] => .nil
  | y :: ys => .cons (.str y) (dt_strsV ys)
theorem evd_join {a : Str} {ys : List Str} (h : EvD K te σ H (.list (ys.map PyData.str))) (hl : (ys.map (·.length)).sum + ys.length * a.length ≤ 16777216) : EvD K (tM1 (rJoin K) (tC (.str a)) te) σ H (.str (Txt.join a ys)) := evd_s fun H1 e Q q => by
  refine ⟨⟨a, rfl⟩, h H1 e _ fun v H2 A g hd => ?_⟩
  obtain ⟨p, us, rfl, hs, hall⟩ := dp_lst hd
  rw [strs_vals hall] at hs
  exact ⟨a, p, ys, rfl, rfl, .inl (sq_of (g.d2 _ _ hs)), hl, q H2 g.ex⟩
theorem evd_split {a b : Str} (h : EvD K te σ H (.str a)) (hb : (b.length == 0) = false) (hl : a.length + 2 ≤ 100000) : EvD K (tM1 rSplit te (tC (.str b))) σ H (.list ((Txt.split a b).map PyData.str)) := fun H1 e Q q => by
  refine h H1 e _ fun v H2 A g hd => ?_
  rw [dp_str hd]
  refine ⟨⟨a, rfl⟩, a, b, rfl, rfl, hb, sz_of hl, fun p hp => ?_⟩
  have g2 := Gr.new (.lst ((Txt.split a b).map V.str)) g hp
  exact q _ _ _ g2 (.lst upd_same (dt_strsV _))
theorem evd_strI {i : Int} (h : EvD K te σ H (.int i)) (hi : i.natAbs.log2 < 1920) : EvD K (tCB rStrU (tCons te tNil)) σ H (.str (numW i)) := evd_s fun H1 e Q q => ev_int h H1 e _ fun H2 e2 => .inl ⟨i, rfl, hi, q H2 e2⟩
theorem evd_strS {x : Str} (h : EvD K te σ H (.str x)) : EvD K (tCB rStrU (tCons te tNil)) σ H (.str x) := evd_s fun H1 e Q q => ev_str h H1 e _ fun H2 e2 => .inr ⟨x, rfl, q H2 e2⟩
theorem evd_intS {x : Str} {n : Int} (h : EvD K te σ H (.str x)) (hn : PySem.intText? x = some n) (hl : x.length ≤ 640) : EvD K (tCB rIntS (tCons te tNil)) σ H (.int n) := evd_i fun H1 e Q q => ev_str h H1 e _ fun H2 e2 => ⟨x, n, rfl, hn, hl, q H2 e2⟩
theorem evd_mul7 {a : Str} (ha : EvD K ta σ H (.str a)) (h1 : 1 ≤ a.length) (h2 : a.length ≤ 1000) : EvD K (tOp rMul7 ta (tC (.int 7))) σ H (.str (rep7 a)) := evd_s fun H1 e Q q => ev_str ha H1 e _ fun H2 e2 => ⟨a, rfl, rfl, h1, h2, q H2 e2⟩
theorem evd_addS {a b : Str} (ha : EvD K ta σ H (.str a)) (hb : EvD K tb σ H (.str b)) (hl : a.length + b.length ≤ 100000) : EvD K (tOp (rAddU K) ta tb) σ H (.str (a ++ b)) := evd_s (ev_op (ev_str ha) (ev_str hb) fun H1 _ _ q => .inr (.inl ⟨a, b, rfl, rfl, sz_of (by omega), q H1 (Ex.refl H1)⟩))
theorem evd_slS {x : Str} {lo hi : TO} {l h : Option Int} (ha : EvD K ta σ H (.str x)) (hl : EvO lo σ H l) (hh : EvO hi σ H h) (hz : x.length ≤ 100000) : EvD K (tSl (rSlU K) ta lo hi) σ H (.str (L2.cutS x l h)) := evd_s fun H1 e Q q =>
  ev_str ha H1 e _ fun H2 e2 => hl H2 (e.trans e2) _ fun H3 e3 => hh H3 ((e.trans e2).trans e3) _ fun H4 e4 => .inr (.inr ⟨x, rfl, sz_of hz, q H4 ((e2.trans e3).trans e4)⟩)
/-- a comprehension out of which a call may raise -/
theorem t_lcX {ds : List PyData} {cB : Addr} {F : List PyData → Option PyData → Prop} {E : XK} {f : PyData → Option PyData} {H1 : Hp} {Q : VK} (h : EvD K tl σ H (.list ds)) (x : Ex H H1) (hz : ds.length ≤ 90000) (hw : ∀ x, wipe ((wipe σ vs).set j (some x)) vs = wipe σ vs) (hj : ∀ x, ((wipe σ vs).set j (some x))[j]? = some (some x)) (hF : ∀ d ∈ ds, F [d] (f d))
    (k1 : ∀ r, allT f ds = some r → ∀ v H2 Hd, Gr H H1 H2 Hd → Dt K Hd v (.list r) → Q v H2) (k2 : allT f ds = none → ∀ H2, Ex H1 H2 → E (.ref cB) none H2) :
    tLc (iSeq K tl) (gName j) tYes (tCall (spDX K cB F) [] E (tCons (tVar j) tNil)) vs σ H1 Q := by
  refine .inl (h H1 x _ fun v H2 A gr hd => ?_)
  obtain ⟨a, xs, rfl, hs, hall⟩ := dp_lst hd
  refine ⟨a, rfl, ⟨xs, sq_of (gr.d2 _ _ hs)⟩, fun D hD => ?_⟩
  refine lc_list (K := K) (a := a) (xs := xs) (fun i H' => ∃ out, allT f (ds.take i) = some out ∧ Acc K A H2 D out H') ⟨[], rfl, Acc.nil gr.d2 hD⟩ (fun i H' _ ⟨_, _, p⟩ => sq_of (p.base _ _ hs)) (fun i y H' hi ⟨out, ho, p⟩ => ?_) fun H' ⟨out, ho, p⟩ => ?_
  · obtain ⟨d, hdi, hx⟩ := dpAll_of hall hi
    have hm : d ∈ ds := List.mem_of_getElem? hdi
    refine ⟨hw y, ?_⟩
    have hol := allT_len ho
    rw [List.length_take] at hol
    have hx' : Dt K A y d := hx
    refine evd_var (K := K) (H := A) hx' (hj y) H' p.base _ fun y' H3 C g hy => ?_
    refine ⟨[d], f d, C, g.d2, by rw [List.append_nil]; exact .cons hy .nil, hF d hm, fun z e => ?_, fun e H4 e4 => ?_⟩
    · intro w H4 B g4 hd4
      have g5 := g.seq g4
      obtain ⟨acc, h1, h2, h3⟩ := p.push (fresh_back gr.d2 hD) hD g5 hd4
      refine ⟨acc, h1, sz_lt (by omega), out ++ [z], ?_, h3⟩
      rw [take_snoc hdi]
      exact allT_snoc ho e
    · exact k2 (allT_none hdi e) H4 (((gr.ex.trans p.1).trans g.ex).trans e4)
  · rw [dpAll_len hall, List.take_length] at ho
    obtain ⟨Hd, g1, g2⟩ := p.done gr.xd gr.fr gr.ex hD
    exact k1 out ho _ H' Hd g1 g2
end
end LC

namespace LC
open PySem PySem.Spec PyProof.Rows L2 Evl TL PySem.StrLaws PySem.Builtin.Str PySem.NumText
section
variable {K : Frag} {A H H0 : Hp} {ds : List PyData} {d : PyData} {σ : L2.St} {te : TE} {ta : TA} {i : Nat} {D : Ends} {g : TG}
theorem s_newD (h : EvDs K ta σ A ds) (x : Ex A H) (hl : ds.length ≤ 100000) (k : ∀ p H1, H p = none → Acc K A H p ds H1 → D.nx (σ.set i (some (.ref p))) H1) : tAsg (tLst ta) (gName i) D σ H := h H x _ fun vs H2 Hd gr hd => by
  refine ⟨by rw [dpAll_len hd]; exact sz_of hl, fun p hp => k p _ (fresh_back gr.ex hp) ⟨gr.ex.trans (Ex.new hp), Hd, vs, upd_same, gr.xd, gr.d2.trans (Ex.new hp), fresh_back gr.d2 hp, gr.fr, hd⟩⟩
theorem s_asgX {cB : Addr} {E : XK} {F : List PyData → Option PyData → Prop} {o : Option PyData} (h : EvDs K ta σ H0 ds) (x : Ex H0 H) (hf : F ds o) (k1 : ∀ d, o = some d → ∀ v H1 Hd, Gr H0 H H1 Hd → Dt K Hd v d → g v σ H1 D.nx) (k2 : o = none → ∀ H1, Ex H H1 → E (.ref cB) none H1) : tAsg (tCall (spDX K cB F) [] E ta) g D σ H :=
  h H x _ fun vs H2 A gr hd => ⟨ds, o, A, gr.d2, by rw [List.append_nil]; exact hd, hf, fun d e v H3 B g3 hv => k1 d e v H3 B (gr.seq g3) hv, fun e H3 e3 => k2 e H3 (gr.ex.trans e3)⟩
theorem g_pairT {v : V} {d e : PyData} {Q : L2.St → Hp → Prop} {i j : Nat} (h : Dt K A v (.tuple [d, e])) (x : Ex A H) (k : ∀ a b, Dt K A a d → Dt K A b e → Q ((σ.set i (some a)).set j (some b)) H) : gTup K 2 (gCons (gName i) (gCons (gName j) gNil)) v σ H Q := by
  obtain ⟨p, xs, rfl, hs, hall⟩ := dp_tup h
  obtain ⟨a, b, rfl, ha, hb⟩ := dts2 hall
  exact ⟨p, [a, b], rfl, ex_t x hs, rfl, a, [b], rfl, b, [], rfl, rfl, k a b ha hb⟩
theorem kGTupT {X : Cx} {K : Frag} {es : List Expr} {k : Nat} {t : TGs} {n : Nat} {pos : Pos} (hK : X.K = K) (hc : X.calm = true) (h : PGs X es t) (hn : (assignEach es X.env).length = n := by rfl) (hst : (assignEach es X.env).findIdx? (·.1) = none := by rfl) : PG X (.Tuple es k pos) (gTup K n t) := by
  subst hK
  exact pg_tup hc h hn hst
end
theorem has_nevT {P : Program} {w : World} {K : Frag} {mg : Str → Option Value} {base : Heap} {CX : CXT} {x q : Str} {st : Stmt} {f : Addr} {fd : FuncData} {ps : List Str} {k : Nat} {sp : Sp} (F : FnP K x q st f fd) (g : mg x = some (.ref f)) (b : Binds K fd ps []) (hn : ∀ vs H Q E, ¬ sp vs H Q E) : Has P w K mg base CX k x ps sp :=
  ⟨f, fd, ⟨fun vs H Q E h => (hn _ _ _ _ h).elim, fun A outer s H args us vs Q E _ _ _ _ h => (hn _ _ _ _ h).elim⟩, b, F.kp, g⟩
theorem et_yesT {σ : L2.St} {H : Hp} : EvT tYes σ H true := fun H1 e Q q => q H1 (Ex.refl H1)
/-! words of data -/
def wordsD : Nat → PyData → List Str
  | _, .int i => [numW i]
  | _, .str x => [x]
  | n + 1, .tuple (.str w :: ds) => w :: ds.flatMap (wordsD n)
  | _, _ => []
theorem wordsD_enc : ∀ (s : Sm) (n : Nat), s.depth ≤ n → wordsD n s.enc = s.words
  | .num i, n, _ => by cases n <;> rfl
  | .nm x, n, _ => by cases n <;> rfl
  | .op w a b, 0, h => by cases (show max a.depth b.depth + 1 ≤ 0 from h)
  | .op w a b, n + 1, h => by
    have h : max a.depth b.depth + 1 ≤ n + 1 := h
    show w :: [a.enc, b.enc].flatMap (wordsD n) = w :: (a.words ++ b.words)
    simp only [List.flatMap_cons, List.flatMap_nil, List.append_nil]
    rw [wordsD_enc a n (by omega), wordsD_enc b n (by omega)]
  | .ite a b c, 0, h => by cases (show max a.depth (max b.depth c.depth) + 1 ≤ 0 from h)
  | .ite a b c, n + 1, h => by
    have h : max a.depth (max b.depth c.depth) + 1 ≤ n + 1 := h
    show ("if" : Str) :: [a.enc, b.enc, c.enc].flatMap (wordsD n) = ("if" : Str) :: (a.words ++ (b.words ++ c.words))
    simp only [List.flatMap_cons, List.flatMap_nil, List.append_nil]
    rw [wordsD_enc a n (by omega), wordsD_enc b n (by omega), wordsD_enc c n (by omega)]
def lineD : PyData → Str
  | .tuple [.str w, q] => Txt.join " " (w :: wordsD 6 q)
  | .tuple [.str w, .str x, q] => Txt.join " " (w :: x :: wordsD 6 q)
  | _ => ""
theorem row_depth {r : Rw} (h : r.good = true) : r.sum.good = true ∧ r.sum.depth ≤ 6 := by
  cases r with
  | set x s =>
    have h : (nameS x && (s.good && decide (s.depth ≤ 6))) = true := h
    simp only [Bool.and_eq_true, decide_eq_true_eq] at h
    exact h.2
  | shw s =>
    have h : (s.good && decide (s.depth ≤ 6)) = true := h
    simp only [Bool.and_eq_true, decide_eq_true_eq] at h
    exact h
theorem lineD_enc {r : Rw} (h : r.good = true) : lineD r.enc = lineS r := by
  obtain ⟨_, h6⟩ := row_depth h
  cases r with
  | set x s =>
    show Txt.join " " ("set" :: x :: wordsD 6 s.enc) = Txt.join " " ("set" :: x :: s.words)
    rw [wordsD_enc s 6 h6]
  | shw s =>
    show Txt.join " " ("show" :: wordsD 6 s.enc) = Txt.join " " ("show" :: s.words)
    rw [wordsD_enc s 6 h6]
def Rw.heads : Rw → List Str
  | .set x _ => ["set", x]
  | .shw _ => ["show"]
theorem cut_init {r : Rw} : ∃ ds, r.enc = .tuple ds ∧ cutD ds none (some (-1)) = r.heads.map PyData.str := by
  cases r with
  | set x s => exact ⟨_, rfl, rfl⟩
  | shw s => exact ⟨_, rfl, rfl⟩
theorem heads_words (r : Rw) : r.words = r.heads ++ r.sum.words := by
  cases r <;> rfl
theorem line_size {r : Rw} (h : r.good = true) : (r.words.map (·.length)).sum + r.words.length * (" " : Str).length ≤ 16777216 := by
  obtain ⟨h1, h2, h3⟩ := row_low h
  have := sum_len (n := 5) fun p hp => (h1 p hp).1
  have e : (" " : Str).length = 1 := by decide +kernel
  rw [e]
  omega
theorem text_size {src : Src} (h : goodS src = true) : ((src.map lineS).map (·.length)).sum + (src.map lineS).length * ("\n" : Str).length ≤ 16777216 := by
  have h8 := goodS_len h
  have := sum_len (n := 6570) (ps := src.map lineS) fun p hp => by
    obtain ⟨r, hr, rfl⟩ := List.mem_map.mp hp
    exact (line_low (good_row h hr)).1
  have e : ("\n" : Str).length = 1 := by decide +kernel
  rw [List.length_map] at this
  rw [e, List.length_map]
  have q : src.length * 6570 ≤ 8 * 6570 := Nat.mul_le_mul_right _ h8
  omega
theorem Sm.words_parts {s : Sm} {w : Str} (h : s.enc = .tuple (.str w :: s.parts.map Sm.enc)) : s.words = w :: s.parts.flatMap Sm.words := by
  cases s with
  | num i => cases h
  | nm x => cases h
  | op z a b =>
    injection h with h
    injection h with h1 h2
    injection h1 with h1
    subst h1
    show z :: (a.words ++ b.words) = z :: [a, b].flatMap Sm.words
    simp
  | ite a b c =>
    injection h with h
    injection h with h1 h2
    injection h1 with h1
    subst h1
    show ("if" : Str) :: (a.words ++ (b.words ++ c.words)) = ("if" : Str) :: [a, b, c].flatMap Sm.words
    simp
theorem Sm.parts_good {s t : Sm} (h : s.good = true) (ht : t ∈ s.parts) : t.good = true := by
  cases s with
  | num i => cases ht
  | nm x => cases ht
  | op z a b =>
    have h : (decide (z ∈ wordsS) && (a.good && b.good)) = true := h
    simp only [Bool.and_eq_true] at h
    have ht : t ∈ [a, b] := ht
    simp only [List.mem_cons, List.not_mem_nil, or_false] at ht
    rcases ht with rfl | rfl
    · exact h.2.1
    · exact h.2.2
  | ite a b c =>
    have h : (a.good && (b.good && c.good)) = true := h
    simp only [Bool.and_eq_true] at h
    have ht : t ∈ [a, b, c] := ht
    simp only [List.mem_cons, List.not_mem_nil, or_false] at ht
    rcases ht with rfl | rfl | rfl
    · exact h.1
    · exact h.2.1
    · exact h.2.2
theorem num_log {i : Int} (h0 : 0 ≤ i) (h9 : i ≤ 9999) : i.natAbs.log2 < 1920 := by
  have : i.natAbs < 2 ^ 14 := by omega
  by_cases z : i.natAbs = 0
  · rw [z]; decide
  · have := (Nat.log2_lt z).mpr this
    omega
/-! sum_at's loop -/
def F_sumatP : Nat → List PyData → Option PyData → Prop
  | 0 => fun _ _ => False
  | n + 1 => F_sumat n
theorem sumAt_none {ws : List Str} {n p : Nat} (h : ws.length ≤ p ∨ n = 0) : sumAt ws n p = none := by
  cases n with
  | zero => rfl
  | succ n =>
    rcases h with h | h
    · unfold sumAt
      rw [List.getElem?_eq_none h]
    · cases h
theorem sumAt_head {ws : List Str} {m p : Nat} {w : Str} (hw : ws[p]? = some w) (hh : headT w = true) : sumAt ws (m + 1) p = (partsAt (sumAt ws m) (2 + if w = "if" then 1 else 0) (p + 1)).map fun q => (.tuple (.str w :: q.1), q.2) := by
  show (match ws[p]? with | none => none | some w => _) = _
  rw [hw]
  show (if headT w = true then _ else _) = _
  rw [if_pos hh]
theorem sumAt_leaf {ws : List Str} {m p : Nat} {w : Str} (hw : ws[p]? = some w) (hh : headT w = false) : sumAt ws (m + 1) p = some (leafT w, p + 1) := by
  show (match ws[p]? with | none => none | some w => _) = _
  rw [hw]
  show (if headT w = true then _ else _) = _
  rw [if_neg (by rw [hh]; exact Bool.false_ne_true)]
theorem parts_none {f : Nat → Option (PyData × Nat)} {p i : Nat} (h : partsAt f i p = none) : ∀ k, i ≤ k → partsAt f k p = none
  | 0, hk => by
    have : i = 0 := by omega
    rw [← this]
    exact h
  | k + 1, hk => by
    by_cases e : i = k + 1
    · rw [← e]; exact h
    · show (partsAt f k p).bind _ = none
      rw [parts_none h k (by omega)]
      rfl
theorem parts_len {f : Nat → Option (PyData × Nat)} {p : Nat} : ∀ {k : Nat} {q : List PyData × Nat}, partsAt f k p = some q → q.1.length = k
  | 0, q, h => by cases h; rfl
  | k + 1, q, h => by
    have h : (partsAt f k p).bind (fun q => (f q.2).map fun r => (q.1 ++ [r.1], r.2)) = some q := h
    cases e : partsAt f k p with
    | none => rw [e] at h; cases h
    | some z =>
      rw [e] at h
      have h : (f z.2).map (fun r => (z.1 ++ [r.1], r.2)) = some q := h
      cases e2 : f z.2 with
      | none => rw [e2] at h; cases h
      | some y =>
        rw [e2] at h
        cases h
        rw [List.length_append, parts_len e]
        rfl
theorem num_text {w : Str} (h : numT w = true) : PySem.intText? w = some ((NumText.digitsVal w.cps.toList : Nat) : Int) ∧ w.length ≤ 640 := by
  unfold numT at h
  simp only [Bool.and_eq_true, List.all_eq_true, decide_eq_true_eq, Bool.not_eq_true', decide_eq_false_iff_not] at h
  have hl := h.2.1
  refine ⟨intText_digits (fun c hc => fig_iff.mp (h.2.2 c hc)) (fun z => h.1 (ext_tl z)) (by omega), by omega⟩
theorem never_sumat {K : Frag} {c : Addr} : ∀ vs H Q E, ¬ spDX K c (F_sumatP 0) vs H Q E := fun vs H Q E ⟨_, _, _, _, _, h, _⟩ => h
end LC
namespace LC
open PySem PySem.Spec PyProof.Rows L2 Evl TL
theorem eqv_strT (x y : Str) : PyData.eqv (.str x) (.str y) = decide (x = y) := by
  simp only [PyData.eqv]
  rw [Bool.eq_iff_iff]
  simp
theorem atI_strs {ws : List Str} {p : Nat} {w : Str} (h : ws[p]? = some w) : atI (ws.map PyData.str) (p : Int) = some (.str w) := by
  have hl := (List.getElem?_eq_some_iff.mp h).1
  rw [getD_atI _ _ (.int 0) (by omega) (by rw [List.length_map]; omega), Int.toNat_natCast]
  rw [List.getD_eq_getElem?_getD, List.getElem?_map, h]
  rfl
theorem fig_all {w : Str} : (!truD (.list ((w.cps.toList.filter fun c => !decide (c ∈ figuresS.cps.toList)).map fun c => PyData.str ⟨#[c]⟩))) = w.cps.toList.all fun c => decide (c ∈ figuresS.cps.toList) := by
  show (!(!(List.map _ _).isEmpty)) = _
  rw [Bool.not_not, List.isEmpty_map, Bool.eq_iff_iff, List.isEmpty_iff, List.filter_eq_nil_iff, List.all_eq_true]
  simp
theorem eqv_intT (x y : Int) : PyData.eqv (.int x) (.int y) = decide (x = y) := by
  simp only [PyData.eqv]
  rw [Bool.eq_iff_iff]
  simp
theorem s_seqT {t u : TS} {D : Ends} {σ : L2.St} {H : Hp} (I : L2.St → Hp → Prop) (fin : ∀ σ' H', I σ' H' → u D σ' H') (h : (∀ σ' H', I σ' H' → u D σ' H') → t { D with nx := u D } σ H) : tSeq t u D σ H := h fin
def rowD : PyData → Option PyData
  | .str l => rowT l
  | _ => none
theorem rows_data (t : Str) : allT rowD ((Txt.split t "\n").map PyData.str) = allT rowT (Txt.split t "\n") := by
  generalize Txt.split t "\n" = l
  induction l with
  | nil => rfl
  | cons a l ih =>
    show (rowT a).bind (fun b => (allT rowD (l.map PyData.str)).map fun r => b :: r) = (rowT a).bind (fun b => (allT rowT l).map fun r => b :: r)
    rw [ih]
theorem s_asgTup {K : Frag} {te : TE} {σ : L2.St} {H : Hp} {i : Nat} {D : Ends} (h : te σ H fun v H1 => rTupU K [v] H1 fun u H2 => D.nx (σ.set i (some u)) H2) : tAsg (tCB (rTupU K) (tCons te tNil)) (gName i) D σ H := h
end LC

namespace LC
open PySem PySem.Spec PyProof.Rows L2 Evl TL
section
variable {K : Frag} {σ : L2.St} {H H0 : Hp} {targs : TA} {D : Ends} {i : Nat}
/-- x = f(..) in a try -/
theorem s_setXT {cB : Addr} {F : List PyData → Option PyData → Prop} {ds : List PyData} {o : Option PyData} {ES : L2.St → XK} (h : EvDs K targs σ H0 ds) (x : Ex H0 H) (hf : F ds o) (k1 : ∀ d, o = some d → ∀ v H1 Hd, Gr H0 H H1 Hd → Dt K Hd v d → D.nx (σ.set i (some v)) H1) (k2 : o = none → ∀ H1, Ex H H1 → ES σ (.ref cB) none H1) : tAsg (tCallS (spDX K cB F) ES targs) (gName i) D σ H :=
  h H x _ fun vs H2 A g hd => ⟨ds, o, A, g.d2, hd, hf, fun d e v H3 B g3 hv => k1 d e v H3 B (g.seq g3) hv, fun e H3 e3 => k2 e H3 (g.ex.trans e3)⟩
end
def isNonD : PyData → Bool
  | .none => true
  | _ => false
theorem ev_notNT {K : Frag} {σ : L2.St} {H : Hp} {te : TE} {d : PyData} (h : EvD K te σ H d) : Ev (tOp (fun x y H Q => y = V.non ∧ Q (.bl (!decide (x = .non))) H) te (tC .non)) σ H (.bl (!isNonD d)) := fun H1 e Q q => h H1 e _ fun v H2 A g hd => by
  refine ⟨rfl, ?_⟩
  have : decide (v = .non) = isNonD d := by cases hd <;> simp [isNonD]
  rw [this]
  exact q H2 g.ex
theorem eqv_slfT {d : PyData} (h : SeqAt.shaped d = true) : (!PyData.eqv d d) = false := by
  rw [SeqAt.eqv_refl _ (SeqAt.canLay_of_shaped h)]
  rfl
theorem head_row {r : Rw} (h : r.good = true) : headOk r.enc = true := by
  cases r with
  | set x s => rfl
  | shw s => rfl
/-! the spoilt text -/
theorem tl_cut (z : Str) (lo hi : Option Int) : tl (L2.cutS z lo hi) = ((tl z).drop (HT.sIx z.length 0 lo)).take (HT.sIx z.length z.length hi - HT.sIx z.length 0 lo) := rfl
def otherS (t m : Str) (p k : Nat) : Str := L2.cutS t none (some (p : Int)) ++ m ++ L2.cutS t (some ((p + k : Nat) : Int)) none
theorem cut_lo {t : Str} {p : Nat} : (L2.cutS t none (some (p : Int))).length ≤ p ∧ ∀ c ∈ tl (L2.cutS t none (some (p : Int))), c ∈ tl t := by
  refine ⟨?_, fun c hc => ?_⟩
  · rw [len_tl, tl_cut, HT.sIx_none, HT.sIx_nat, List.length_take]
    omega
  · rw [tl_cut] at hc
    exact List.mem_of_mem_drop (List.mem_of_mem_take hc)
theorem cut_hi {t : Str} {p : Nat} (h : p ≤ t.length) (k : Nat) : (L2.cutS t (some ((p + k : Nat) : Int)) none).length ≤ t.length - p ∧ ∀ c ∈ tl (L2.cutS t (some ((p + k : Nat) : Int)) none), c ∈ tl t := by
  refine ⟨?_, fun c hc => ?_⟩
  · rw [len_tl, tl_cut, HT.sIx_none, HT.sIx_nat, List.length_take]
    omega
  · rw [tl_cut] at hc
    exact List.mem_of_mem_drop (List.mem_of_mem_take hc)
theorem other_ok {t m : Str} {p : Nat} (k : Nat) (ht : t.length ≤ 52568 ∧ ∀ c ∈ tl t, c ≤ 122) (hp : p ≤ t.length) (hm : m.length ≤ 100 ∧ ∀ c ∈ tl m, c ≤ 122) : okT (otherS t m p k) ∧ (L2.cutS t none (some (p : Int))).length + m.length ≤ 100000 ∧ (L2.cutS t none (some (p : Int)) ++ m).length + (L2.cutS t (some ((p + k : Nat) : Int)) none).length ≤ 100000 := by
  obtain ⟨a1, a2⟩ := cut_lo (t := t) (p := p)
  obtain ⟨b1, b2⟩ := cut_hi hp k
  have l1 : (L2.cutS t none (some (p : Int)) ++ m).length = (L2.cutS t none (some (p : Int))).length + m.length := by rw [len_tl, tl_append, List.length_append, ← len_tl, ← len_tl]
  have l2 : (otherS t m p k).length = (L2.cutS t none (some (p : Int)) ++ m).length + (L2.cutS t (some ((p + k : Nat) : Int)) none).length := by
    unfold otherS
    rw [len_tl, tl_append, List.length_append, ← len_tl, ← len_tl]
  have := hm.1
  have := ht.1
  refine ⟨⟨by omega, fun c hc => ?_⟩, by omega, by omega⟩
  unfold otherS at hc
  rw [tl_append, tl_append] at hc
  rcases List.mem_append.mp hc with hc | hc
  · rcases List.mem_append.mp hc with hc | hc
    · have := ht.2 c (a2 c hc)
      omega
    · have := hm.2 c hc
      omega
  · have := ht.2 c (b2 c hc)
    omega
def signsS : List Str := [" ", "\n", "0", "a", "add", " add", "if ", "show", "9"]
def signB (m : Str) : Bool := decide (m.length ≤ 100) && m.cps.toList.all fun c => decide (c ≤ 122)
theorem signs_ok : (("" : Str) :: signsS).all signB = true := by decide +kernel
theorem sign_ok {m : Str} (h : m ∈ ("" : Str) :: signsS) : m.length ≤ 100 ∧ ∀ c ∈ tl m, c ≤ 122 := by
  have := List.all_eq_true.mp signs_ok m h
  unfold signB at this
  simp only [Bool.and_eq_true, decide_eq_true_eq, List.all_eq_true] at this
  exact this
/-! the odd texts -/
def splC (s : Nat) (x : Str) : List Str := (spl [s] 0 [] (tl x)).map fun l => ⟨l.toArray⟩
def rowsC (t : Str) : Option (List PyData) := if tl t = [] then some [] else allT (fun l => rowW (splC 32 l)) (splC 10 t)
theorem split_sp (x : Str) : Txt.split x " " = splC 32 x := by
  rw [split_eq sep_sp]
  have e : tl (" " : Str) = [32] := by decide +kernel
  rw [e]
  rfl
theorem split_nl (x : Str) : Txt.split x "\n" = splC 10 x := by
  rw [split_eq sep_nl]
  have e : tl ("\n" : Str) = [10] := by decide +kernel
  rw [e]
  rfl
theorem rows_C (t : Str) : rowsT t = rowsC t := by
  unfold rowsT rowsC
  have e : rowT = fun l => rowW (splC 32 l) := funext fun l => by unfold rowT; rw [split_sp]
  rw [e, split_nl]
  by_cases h : t = ""
  · rw [if_pos h, if_pos (by rw [h]; rfl)]
  · rw [if_neg h, if_neg (show ¬ tl t = [] from fun z => h (ext_tl z))]
def badC (t : Str) : Bool := (decide (t.length ≤ 60000) && t.cps.toList.all fun c => decide (c < 0x110000)) && match rowsC t with
  | none => true
  | some rs => !isSource (.tuple rs)
theorem bad_okT {t : Str} (h : badC t = true) : okT t := by
  unfold badC at h
  rw [Bool.and_eq_true, Bool.and_eq_true] at h
  exact ⟨of_decide_eq_true h.1.1, fun c hc => of_decide_eq_true (List.all_eq_true.mp h.1.2 c hc)⟩
theorem bad_read {t : Str} (h : badC t = true) : F_read [.str t] none := by
  refine .inr ⟨t, rfl, bad_okT h, ?_⟩
  rw [rows_C]
  unfold badC at h
  rw [Bool.and_eq_true] at h
  have h := h.2
  cases e : rowsC t with
  | none => exact .inl ⟨rfl, rfl⟩
  | some rs =>
    rw [e] at h
    exact .inr ⟨rs, rfl, .inl ⟨by simpa using h, rfl⟩⟩
def oddA : List Str := ["show", "show add 1", "show 01", "show 10000", "set a", "set add 1", "put a", " show 1", "show 1 "]
def longS : Str := "show " ++ rep7 "add " ++ rep7 "1 " ++ "1"
def oddB : List Str := ["show  1", "show 1\n", "\nshow 1", "show if 1 2", "show 1 2", longS]
def oddT : List PyData := (oddA.map PyData.str ++ oddB.map PyData.str) ++ [.none, .int 7, .str "show -1"]
theorem odd_bad : (["show", "show add 1", "show 10000", "set a", "set add 1", "put a", " show 1", "show 1 ", "show  1", "show 1\n", "\nshow 1", "show if 1 2", "show 1 2", longS, "show -1"] : List Str).all badC = true := by decide +kernel
theorem odd_01 : F_read [.str "show 01"] none := by
  refine .inr ⟨"show 01", rfl, ⟨by decide +kernel, by decide +kernel⟩, .inr ⟨[(Rw.shw (.num 1)).enc], ?_, .inr ⟨[.shw (.num 1)], rfl, by decide +kernel, ?_⟩⟩⟩
  · rw [rows_C]
    rfl
  · rw [if_neg]
    intro z
    have e := congrArg tl z
    rw [show textS [.shw (.num 1)] = Txt.join "\n" [Txt.join " " ["show", numW 1]] from rfl, tl_joinT] at e
    rw [show ([Txt.join " " ["show", numW 1]] : List Str).map tl = [tl (Txt.join " " ["show", numW 1])] from rfl, tl_joinT] at e
    revert e
    decide +kernel
theorem odd_read {d : PyData} (h : d ∈ oddT) : F_read [d] none := by
  have b := List.all_eq_true.mp odd_bad
  unfold oddT oddA oddB at h
  simp only [List.map_cons, List.map_nil, List.cons_append, List.nil_append, List.mem_cons, List.not_mem_nil, or_false] at h
  rcases h with rfl | rfl | rfl | rfl | rfl | rfl | rfl | rfl | rfl | rfl | rfl | rfl | rfl | rfl | rfl | rfl | rfl | rfl
  all_goals first | exact odd_01 | exact .inl ⟨_, rfl, rfl, rfl⟩ | exact bad_read (b _ (by simp))
theorem odd_len18 : oddT.length = 18 := by decide +kernel
end LC
/-! The text by places: printed by gen.py -/
namespace K04
open PySem PySem.Spec PyProof.Rows L2
def top (i : Nat) : Stmt := PySem.Challenge.pw_leancells_k04_texts.main.body.getD i (.Pass ⟨0, 0, 0, 0⟩)
abbrev s_is_within : Stmt := top 12
abbrev s_is_name : Stmt := top 13
abbrev s_is_sum : Stmt := top 14
abbrev s_is_row : Stmt := top 15
abbrev s_is_source : Stmt := top 16
abbrev s_look : Stmt := top 17
abbrev s_words_of : Stmt := top 18
abbrev s_text_of : Stmt := top 19
abbrev s_shown : Stmt := top 20
abbrev s_sum_at : Stmt := top 21
abbrev s_row_of : Stmt := top 22
abbrev s_read : Stmt := top 23
abbrev s_law_cell : Stmt := top 25
abbrev s_law_mix : Stmt := top 26
abbrev s_law_seed : Stmt := top 27
abbrev s_law_pick : Stmt := top 28
abbrev s_law_sum : Stmt := top 29
abbrev s_law_source : Stmt := top 30
abbrev s_law_is_source : Stmt := top 31
abbrev s_law_is_name : Stmt := top 32
abbrev s_law_is_sum : Stmt := top 33
abbrev s_law_text : Stmt := top 34
abbrev s_law_words : Stmt := top 35
abbrev s_law : Stmt := top 36
def tabL : List He.Tab := []
/-! The head: facts by names, the run of the top -/
def d_is_within : He.DefD := ⟨("is_within", none), "is_within", "is_within", defArgs s_is_within, defBody s_is_within, defScope s_is_within, [], []⟩
def d_is_name : He.DefD := ⟨("is_name", none), "is_name", "is_name", defArgs s_is_name, defBody s_is_name, defScope s_is_name, [], []⟩
def d_is_sum : He.DefD := ⟨("is_sum", none), "is_sum", "is_sum", defArgs s_is_sum, defBody s_is_sum, defScope s_is_sum, [], []⟩
def d_is_row : He.DefD := ⟨("is_row", none), "is_row", "is_row", defArgs s_is_row, defBody s_is_row, defScope s_is_row, [], []⟩
def d_is_source : He.DefD := ⟨("is_source", none), "is_source", "is_source", defArgs s_is_source, defBody s_is_source, defScope s_is_source, [], []⟩
def d_look : He.DefD := ⟨("look", none), "look", "look", defArgs s_look, defBody s_look, defScope s_look, [], []⟩
def d_words_of : He.DefD := ⟨("words_of", none), "words_of", "words_of", defArgs s_words_of, defBody s_words_of, defScope s_words_of, [], []⟩
def d_text_of : He.DefD := ⟨("text_of", none), "text_of", "text_of", defArgs s_text_of, defBody s_text_of, defScope s_text_of, [], []⟩
def d_shown : He.DefD := ⟨("shown", none), "shown", "shown", defArgs s_shown, defBody s_shown, defScope s_shown, [], []⟩
def d_sum_at : He.DefD := ⟨("sum_at", none), "sum_at", "sum_at", defArgs s_sum_at, defBody s_sum_at, defScope s_sum_at, [], []⟩
def d_row_of : He.DefD := ⟨("row_of", none), "row_of", "row_of", defArgs s_row_of, defBody s_row_of, defScope s_row_of, [], []⟩
def d_read : He.DefD := ⟨("read", none), "read", "read", defArgs s_read, defBody s_read, defScope s_read, [], []⟩
def d_law_cell : He.DefD := ⟨("_law_cell", none), "_law_cell", "_law_cell", defArgs s_law_cell, defBody s_law_cell, defScope s_law_cell, [], []⟩
def d_law_mix : He.DefD := ⟨("_law_mix", none), "_law_mix", "_law_mix", defArgs s_law_mix, defBody s_law_mix, defScope s_law_mix, [], []⟩
def d_law_seed : He.DefD := ⟨("_law_seed", none), "_law_seed", "_law_seed", defArgs s_law_seed, defBody s_law_seed, defScope s_law_seed, [], []⟩
def d_law_pick : He.DefD := ⟨("_law_pick", none), "_law_pick", "_law_pick", defArgs s_law_pick, defBody s_law_pick, defScope s_law_pick, [], []⟩
def d_law_sum : He.DefD := ⟨("_law_sum", none), "_law_sum", "_law_sum", defArgs s_law_sum, defBody s_law_sum, defScope s_law_sum, [], []⟩
def d_law_source : He.DefD := ⟨("_law_source", none), "_law_source", "_law_source", defArgs s_law_source, defBody s_law_source, defScope s_law_source, [], []⟩
def d_law_is_source : He.DefD := ⟨("_law_is_source", none), "_law_is_source", "_law_is_source", defArgs s_law_is_source, defBody s_law_is_source, defScope s_law_is_source, [], []⟩
def d_law_is_name : He.DefD := ⟨("_law_is_name", none), "_law_is_name", "_law_is_name", defArgs s_law_is_name, defBody s_law_is_name, defScope s_law_is_name, [], []⟩
def d_law_is_sum : He.DefD := ⟨("_law_is_sum", none), "_law_is_sum", "_law_is_sum", defArgs s_law_is_sum, defBody s_law_is_sum, defScope s_law_is_sum, [], []⟩
def d_law_text : He.DefD := ⟨("_law_text", none), "_law_text", "_law_text", defArgs s_law_text, defBody s_law_text, defScope s_law_text, [], []⟩
def d_law_words : He.DefD := ⟨("_law_words", none), "_law_words", "_law_words", defArgs s_law_words, defBody s_law_words, defScope s_law_words, [], []⟩
def d_law : He.DefD := ⟨("law", none), "law", "law", defArgs s_law, defBody s_law, defScope s_law, [], []⟩
def fnL : List He.DefD := [d_is_within, d_is_name, d_is_sum, d_is_row, d_is_source, d_look, d_words_of, d_text_of, d_shown, d_sum_at, d_row_of, d_read, d_law_cell, d_law_mix, d_law_seed, d_law_pick, d_law_sum, d_law_source, d_law_is_source, d_law_is_name, d_law_is_sum, d_law_text, d_law_words, d_law]
def faL : List He.Fa := [.glo "is_within", .glo "is_name", .glo "is_sum", .glo "is_row", .glo "is_source", .glo "look", .glo "words_of", .glo "text_of", .glo "shown", .glo "sum_at", .glo "row_of", .glo "read", .glo "_law_cell", .glo "_law_mix", .glo "_law_seed", .glo "_law_pick", .glo "_law_sum", .glo "_law_source", .glo "_law_is_source", .glo "_law_is_name", .glo "_law_is_sum", .glo "_law_text", .glo "_law_words", .glo "law", .glo "LeanError", .exc "LeanError", .glo "BadSource", .exc "BadSource", .glo "BadText", .exc "BadText", .str "__name__" "law_leancells_k04_texts", .str "SMALL" "abcdefghijklmnopqrstuvwxyz", .str "FIGURES" "0123456789", .int "ROUND" 10000, .int "MOST_ROWS" 8, .int "MOST_DEEP" 6, .glo "WORDS", .glo "BARRED", .free "len", .free "isinstance", .free "range", .free "tuple", .free "sorted", .free "set", .free "int", .free "str", .free "bool", .free "list", .free "min", .free "zip", .free "enumerate", .free "dict", .free "ValueError", .exm "BadText" "BadText" true]
def exB (K : PySem.W.Frag) : Bool := He.tupB K "WORDS" [.str "add", .str "less", .str "times", .str "over", .str "same"] && He.tupB K "BARRED" [.str "add", .str "less", .str "times", .str "over", .str "same", .str "if", .str "set", .str "show"] && true
abbrev R : PySem.W.OpenRow := PySem.W.OpenLaw.row PySem.Challenge.rw_leancells_k04_texts
abbrev hk : PySem.W.Hook := He.hookX 7 faL fnL tabL [] exB
def ob (s : PySem.W.SharedT) : He.AlX := He.obsX 7 faL fnL tabL [] exB (HandSHeadRun.getT s)
theorem ob_eq (s : PySem.W.SharedT) : ob s = hk.obs s.abs := He.obsX_eq (HandSHeadRun.getT_eq s)
def loose0 : List PySem.Str := ["LeanError", "BadSource", "BadText", "SMALL", "FIGURES", "ROUND", "MOST_ROWS", "MOST_DEEP", "WORDS", "BARRED", "is_within", "is_name", "is_sum", "is_row", "is_source", "look", "words_of", "text_of", "shown", "sum_at", "row_of", "read", "_law_cell", "_law_mix", "_law_seed", "_law_pick", "_law_sum", "_law_source", "_law_is_source", "_law_is_name"]
def loose1 : List PySem.Str := ["_law_is_sum", "_law_text", "_law_words"]
def looseL : List PySem.Str := loose0 ++ loose1
theorem run (w : World) : HandSHeadRun.RunEq R (PySem.W.view R.prog [36]) hk ob 3000 looseL w := by
  intro os
  kernel_rfl
open LC Evl
section
variable {P : Program} {w : World} {K : PySem.W.Frag} {mg : Str → Option Value} {base : Heap}
theorem sc_is_within : FnScope ["thing", "low", "high"] ["thing", "low", "high"] (defScope s_is_within) := ⟨rfl, rfl, rfl, by decide +kernel, rfl, by decide +kernel, by decide +kernel⟩
theorem ok_is_within {f : Addr} {fd : FuncData} (F : FnP K "is_within" "is_within" s_is_within f fd) (g : mg "is_within" = some (.ref f)) (T : Tx mg)  : Has P w K mg base CX0 1 "is_within" ["thing", "low", "high"] (spD K F_is_within) := by
  have nd := (sc_is_within).nd
  refine has_d (FF := F_is_within) F g (F.bindsN fun _ _ _ _ _ _ us hl => match us, hl with | [_, _, _], _ => rfl) sc_is_within (by rintro _ _ ⟨_, _, _, rfl, _⟩; rfl) (fun cdv A outer s H vs Q E ds d H0 hr x hd hf k => ?_)
  obtain ⟨a, lo, hi, rfl, rfl⟩ := hf
  obtain ⟨v0, v1, v2, rfl, d0, d1, d2⟩ := dts3 hd
  refine ⟨_, (pss_one (ps_ret (pe_and (pe_callB (kIsi (K := K) rfl) rfl (T.free (by decide)) boot_isinstance (pa_cons (pv 0) (pa_cons (pe_bltn (v := .ty "int") rfl (T.free (by decide)) boot_int rfl) pa_nil))) (pe_and (kNot (K := K) rfl (pe_callB (kIsi (K := K) rfl) rfl (T.free (by decide)) boot_isinstance (pa_cons (pv 0) (pa_cons (pe_bltn (v := .ty "bool") rfl (T.free (by decide)) boot_bool rfl) pa_nil)))) (pe_one (pe_chain op_le op_le (pv 1) (pv 0) (pv 2))))))), ?_⟩
  refine s_retD (d := .bool (isWithin a lo hi)) (evd_is (d := .bool (isT a "int" && (!isT a "bool" && isWithin a lo hi))) (evd_b (ev_andV (ev_isi (evd_var d0) (by decide)) fun e1 => ev_andV (ev_notB (ev_isi (evd_var d0) (by decide))) fun e2 => ?_)) (congrArg PyData.bool (within_eq a lo hi))) x k
  obtain ⟨i, rfl⟩ : ∃ i, a = .int i := by
    cases a <;> simp [isT, tyN] at e1 e2
    exact ⟨_, rfl⟩
  exact ev_chain (K := K) (p := fun i j => decide (i ≤ j)) (q := fun i j => decide (i ≤ j)) (evd_var d1) (evd_var d0) (evd_var d2)
theorem sc_is_name : FnScope ["thing", "sign"] ["thing"] (defScope s_is_name) := ⟨rfl, rfl, rfl, by decide +kernel, rfl, by decide +kernel, by decide +kernel⟩
theorem ok_is_name {f : Addr} {fd : FuncData} (F : FnP K "is_name" "is_name" s_is_name f fd) (g : mg "is_name" = some (.ref f)) (T : Tx mg) (m_SMALL : ∃ t, mg "SMALL" = some (.str smallS t)) {a_BARRED : Addr} (m_BARRED : mg "BARRED" = some (.ref a_BARRED)) (b_BARRED : ∀ H, Dt K H (.ref a_BARRED) (.tuple (barredS.map PyData.str))) : Has P w K mg base CX0 1 "is_name" ["thing"] (spD K F_is_name) := by
  have nd := (sc_is_name).nd
  refine has_d (FF := F_is_name) F g (F.bindsN fun _ _ _ _ _ _ us hl => match us, hl with | [_], _ => rfl) sc_is_name (by rintro _ _ ⟨_, rfl, _⟩; rfl) (fun cdv A outer s H vs Q E ds d H0 hr x hd hf k => ?_)
  obtain ⟨a, rfl, ok, rfl⟩ := hf
  obtain ⟨v0, rfl, d0⟩ := dts1 hd
  refine ⟨_, (pss_cons (ps_if (PW.pt (pw_or (pt_not (kTruth (K := K) rfl (pe_callB (kIsi (K := K) rfl) rfl (T.free (by decide)) boot_isinstance (pa_cons (pv 0) (pa_cons (pe_bltn (v := .ty "str") rfl (T.free (by decide)) boot_str rfl) pa_nil))))) (pw_or (pt_not (pt_chain op_le op_le pe_int (pe_callB (kLen (K := K) rfl) rfl (T.free (by decide)) boot_len (pa_cons (pv 0) pa_nil)) pe_int)) (pw_or1 (pt_cmpR (kIn (K := K) rfl) (pv 0) (pe_gref m_BARRED) rfl))))) (pss_one (ps_ret pe_bl)) pss_nil)
      (pss_one (ps_ret (kNot (K := K) rfl (pe_lc (own := [("sign", 1)]) rfl nd (kSeq (K := K) rfl (pv 0)) (blkOk_by (N := ["thing", "sign"]) (sc := defScope s_is_name) (own := [("sign", 1)]) (by decide +kernel)) (fun _ _ _ _ _ => (pg_name (i := 1) nd rfl (Or.inl rfl))) (fun _ _ _ _ _ => (pts_one (pt_cmpR (kNotIn (K := K) rfl) (pv 1) (pe_gstr m_SMALL) rfl))) (fun _ _ _ _ _ => (pv 1))))))), ?_⟩
  cases hT : isT a "str" with
  | false =>
    refine s_ifD (b := true) (et_or (a := true) (b := true) (et_not (a := false) (et_is (et_b (ev_isi (evd_var d0) (by decide))) hT)) fun z => nomatch z) x (fun _ H1 e1 => ?_) fun z => nomatch z
    refine s_retD (evd_is evd_bl ?_) (x.trans e1) fun v H2 Hd g => k v H2 Hd (g.after e1)
    cases a <;> first | rfl | simp [isT, tyN] at hT
  | true =>
    obtain ⟨z, rfl⟩ := isT_str hT
    have hz := ok_str ok
    have hB : ∀ H1, Dt K H1 (.ref a_BARRED) (.tuple (barredS.map PyData.str)) := fun H1 => b_BARRED H1
    refine s_ifD (b := !(decide ((1 : Int) ≤ (z.length : Int)) && decide ((z.length : Int) ≤ 4)) || decide (z ∈ barredS)) (et_or (a := false) (et_not (a := true) (et_is (et_b (ev_isi (evd_var d0) (by decide))) hT)) fun _ => et_or (et_not (et_chain (K := K) (p := fun i j => decide (i ≤ j)) (q := fun i j => decide (i ≤ j)) evd_int (evd_i (ev_lenS (evd_var d0) (sz_of hz))) evd_int))
      fun _ => et_is (et_test (ev_inT (neg := false) (evd_var d0) (evd_ref (hB _)) rfl (flat_strs _))) (by simp [inD_str])) x (fun hb H1 e1 => ?_) fun hb H1 e1 => ?_
    · refine s_retD (evd_is evd_bl ?_) (x.trans e1) fun v H2 Hd g => k v H2 Hd (g.after e1)
      refine congrArg PyData.bool (Eq.symm ?_)
      show nameS z = false
      unfold nameS
      rw [Bool.or_eq_true] at hb
      rcases hb with hb | hb
      · have q : (decide (1 ≤ z.length) && decide (z.length ≤ 4)) = false := by
          rw [Bool.not_eq_true', Bool.and_eq_false_iff] at hb
          rw [Bool.and_eq_false_iff]
          simp only [decide_eq_false_iff_not] at hb ⊢
          omega
        rw [q, Bool.false_and]
      · rw [hb]
        simp
    · rw [Bool.or_eq_false_iff, Bool.not_eq_false'] at hb
      have hl : (decide (1 ≤ z.length) && decide (z.length ≤ 4)) = true := by
        have := hb.1
        rw [Bool.and_eq_true] at this ⊢
        simp only [decide_eq_true_eq] at this ⊢
        omega
      have hl4 : z.length ≤ 4 := by
        rw [Bool.and_eq_true] at hl
        exact of_decide_eq_true hl.2
      refine s_retD (d := .bool (nameS z)) (evd_is (evd_b (ev_notD (evd_lcS (fun c => !decide (c ∈ smallS.cps.toList)) (fun c => .str ⟨#[c]⟩) (evd_var d0) (by omega) (fun _ => rfl) (fun c H1 _ _ => et_test (ev_inS (neg := true) (evd_var (.str _)) (evd_str (x := smallS)))) fun c H1 _ _ _ => evd_var (.str _)) (ok_lst_of ?_))) (congrArg PyData.bool ?_)) (x.trans e1) fun v H2 Hd g => k v H2 Hd (g.after e1)
      · intro d hd
        obtain ⟨c, hc, rfl⟩ := List.mem_map.mp hd
        exact ok_sign ok (List.mem_filter.mp hc).1
      · unfold nameS
        rw [hl, hb.2, Bool.true_and, Bool.not_false, Bool.true_and]
        show (!(!(List.map _ _).isEmpty)) = _
        rw [Bool.not_not, List.isEmpty_map, Bool.eq_iff_iff, List.isEmpty_iff, List.filter_eq_nil_iff, List.all_eq_true]
        simp
theorem sc_is_sum : FnScope ["thing", "deep", "part"] ["thing", "deep"] (defScope s_is_sum) := ⟨rfl, rfl, rfl, by decide +kernel, rfl, by decide +kernel, by decide +kernel⟩
theorem step_is_sum {f : Addr} {fd : FuncData} (F : FnP K "is_sum" "is_sum" s_is_sum f fd) (g : mg "is_sum" = some (.ref f)) (T : Tx mg) (n : Nat) {a_WORDS : Addr} (m_WORDS : mg "WORDS" = some (.ref a_WORDS)) (b_WORDS : ∀ H, Dt K H (.ref a_WORDS) (.tuple (wordsS.map PyData.str))) (h_is_sum : Has P w K mg base CX0 (n + 1) "is_sum" ["thing", "deep"] (spD K (Fprev F_is_sum n))) (h_is_within : Has P w K mg base CX0 1 "is_within" ["thing", "low", "high"] (spD K F_is_within)) (m_ROUND : ∃ t, mg "ROUND" = some (.int 10000 t)) (h_is_name : Has P w K mg base CX0 1 "is_name" ["thing"] (spD K F_is_name)) : HasF P w K mg base CX0 (n + 2) "is_sum" ["thing", "deep"] (spD K (F_is_sum n)) f fd := by
  have nd := (sc_is_sum).nd
  refine hasF_d (FF := F_is_sum n) F g (F.bindsN fun _ _ _ _ _ _ us hl => match us, hl with | [_, _], _ => rfl) sc_is_sum (by rintro _ _ ⟨_, rfl, _⟩; rfl) (fun cdv A outer s H vs Q E ds d H0 hr x hd hf k => ?_)
  obtain ⟨a, rfl, ok, rfl⟩ := hf
  obtain ⟨v0, v1, rfl, d0, d1⟩ := dts2 hd
  refine ⟨_, (pss_cons (ps_if (kTruth (K := K) rfl (pe_callB (kIsi (K := K) rfl) rfl (T.free (by decide)) boot_isinstance (pa_cons (pv 0) (pa_cons (pe_bltn (v := .ty "str") rfl (T.free (by decide)) boot_str rfl) pa_nil)))) (pss_one (ps_ret (pe_has h_is_name hr (by omega) rfl pass0 (pa_cons (pv 0) pa_nil)))) pss_nil)
      (pss_cons (ps_if (pt_not (kTruth (K := K) rfl (pe_callB (kIsi (K := K) rfl) rfl (T.free (by decide)) boot_isinstance (pa_cons (pv 0) (pa_cons (pe_bltn (v := .ty "tuple") rfl (T.free (by decide)) boot_tuple rfl) pa_nil))))) (pss_one (ps_ret (pe_has h_is_within hr (by omega) rfl pass0 (pa_cons (pv 0) (pa_cons pe_int (pa_cons (pe_op op_sub (pe_gint m_ROUND) pe_int) pa_nil)))))) pss_nil)
      (pss_cons (ps_if (PW.pt (pw_or (pt_cmpR op_lt (pv 1) pe_int (nomark _)) (pw_or (pt_not (kTruth (K := K) rfl (pv 0))) (pw_or1 (pt_not (kTruth (K := K) rfl (pe_callB (kIsi (K := K) rfl) rfl (T.free (by decide)) boot_isinstance (pa_cons (pe_ix (kIx (K := K) rfl) (pv 0) pe_int (fun _ _ => rfl)) (pa_cons (pe_bltn (v := .ty "str") rfl (T.free (by decide)) boot_str rfl) pa_nil))))))))) (pss_one (ps_ret pe_bl)) pss_nil)
      (pss_cons (ps_if (PW.pt (pw_or (PW.pt (pw_and (pt_cmpR (kIn (K := K) rfl) (pe_ix (kIx (K := K) rfl) (pv 0) pe_int (fun _ _ => rfl)) (pe_gref m_WORDS) rfl) (pw_and1 (pt_cmpR (kEq (K := K) rfl hr.units) (pe_callB (kLen (K := K) rfl) rfl (T.free (by decide)) boot_len (pa_cons (pv 0) pa_nil)) pe_int (nomark _))))) (pw_or1 (PW.pt (pw_and (pt_cmpR (kEq (K := K) rfl hr.units) (pe_ix (kIx (K := K) rfl) (pv 0) pe_int (fun _ _ => rfl)) pe_str (nomark _)) (pw_and1 (pt_cmpR (kEq (K := K) rfl hr.units) (pe_callB (kLen (K := K) rfl) rfl (T.free (by decide)) boot_len (pa_cons (pv 0) pa_nil)) pe_int (nomark _)))))))) (pss_one (ps_ret (kNot (K := K) rfl (pe_lc (own := [("part", 2)]) rfl nd (kSeq (K := K) rfl (pe_slice (kSl (K := K) rfl) (pv 0) (po_some pe_int) po_none)) (blkOk_by (N := ["thing", "deep", "part"]) (sc := defScope s_is_sum) (own := [("part", 2)]) (by decide +kernel)) (fun _ _ _ _ _ => (pg_name (i := 2) nd rfl (Or.inl rfl))) (fun _ _ _ _ _ => (pts_one (pt_not (kTruth (K := K) rfl (pe_has h_is_sum hr (by omega) rfl pass0 (pa_cons (pv 2) (pa_cons (pe_op op_sub (pv 1) pe_int) pa_nil))))))) (fun _ _ _ _ _ => (pv 2)))))) pss_nil)
      (pss_one (ps_ret pe_bl)))))), ?_⟩
  have k : Rt K H0 H (.bool (isSum n a)) Q := k
  cases hS : isT a "str" with
  | true =>
    refine s_yes (et_is (et_b (ev_isi (evd_var d0) (by decide))) hS) x fun H1 e1 => ?_
    refine (k.go e1).ret (x.trans e1) (evd_call (eds_cons (evd_var d0) eds_nil) ⟨_, rfl, ok, rfl⟩) ?_
    obtain ⟨z, rfl⟩ := isT_str hS
    cases n <;> rfl
  | false =>
    refine s_nay (et_is (et_b (ev_isi (evd_var d0) (by decide))) hS) x fun H1 e1 => ?_
    cases hT : isT a "tuple" with
    | false =>
      refine s_yes (et_not (a := false) (et_is (et_b (ev_isi (evd_var d0) (by decide))) hT)) (x.trans e1) fun H2 e2 => ?_
      refine ((k.go e1).go e2).ret ((x.trans e1).trans e2) (evd_call (eds_cons (evd_var d0) (eds_cons evd_int (eds_cons (evd_i (ev_I0 (K := K) evd_int evd_int)) eds_nil))) ⟨_, _, _, rfl, rfl⟩) ?_
      rw [isSum_nontup hS hT]
      rfl
    | true =>
      refine s_nay (et_not (a := true) (et_is (et_b (ev_isi (evd_var d0) (by decide))) hT)) (x.trans e1) fun H2 e2 => ?_
      obtain ⟨ds, rfl⟩ := isT_tup hT
      have x2 := (x.trans e1).trans e2
      have k2 := (k.go e1).go e2
      have no : ∀ {H3 : Hp}, Ex H2 H3 → isSum n (.tuple ds) = false → tRet (tC (.bl false)) { nx := fun _ H' => Q .non H', rt := Q } (start ["thing", "deep", "part"] [v0, v1]) H3 := fun e3 z => (k2.go e3).ret (x2.trans e3) evd_bl (congrArg PyData.bool z.symm)
      cases n with
      | zero =>
        refine s_yes (et_or (a := true) (b := true) (et_test (ev_is (ev_I0 (K := K) (evd_var d1) evd_int) rfl)) fun z => nomatch z) x2 fun H3 e3 => no e3 (by simp [isSum])
      | succ m =>
        have t1 : EvT (tTest (tOp (rI0 fun i j => V.bl (decide (i < j))) (tVar 1) (tC (.int 1)))) (start ["thing", "deep", "part"] [v0, v1]) H0 false := et_test (ev_is (ev_I0 (K := K) (evd_var d1) evd_int) (by show V.bl (decide (((m + 1 : Nat) : Int) < 1)) = _; rw [decide_eq_false (by omega)]))
        cases ds with
        | nil =>
          refine s_yes (et_or (a := false) (b := true) t1 fun _ => et_or (a := true) (b := true) (et_not (a := false) (et_d (evd_var d0) ok)) fun z => nomatch z) x2 fun H3 e3 => no e3 ?_
          rfl
        | cons w r =>
          have i0 : EvD K (tOp (rIx K) (tVar 0) (tC (.int 0))) (start ["thing", "deep", "part"] [v0, v1]) H0 w := evd_ixT (evd_var d0) evd_int (atI_0 _ _)
          cases hw : isT w "str" with
          | false =>
            refine s_yes (et_or (a := false) (b := true) t1 fun _ => et_or (a := false) (b := true) (et_not (a := true) (et_d (evd_var d0) ok)) fun _ => et_not (a := false) (et_is (et_b (ev_isi i0 (by decide))) hw)) x2 fun H3 e3 => no e3 ?_
            cases w <;> first | rfl | simp [isT, tyN] at hw
          | true =>
            obtain ⟨z, rfl⟩ := isT_str hw
            refine s_nay (et_or (a := false) (b := false) t1 fun _ => et_or (a := false) (b := false) (et_not (a := true) (et_d (evd_var d0) ok)) fun _ => et_not (a := true) (et_is (et_b (ev_isi i0 (by decide))) hw)) x2 fun H3 e3 => ?_
            have okz : SeqAt.shaped (PyData.str z) = true := shapedS (ok_tup ok (List.mem_cons_self ..))
            have hW : ∀ H1, Dt K H1 (.ref a_WORDS) (.tuple (wordsS.map PyData.str)) := fun H1 => b_WORDS H1
            have len : ∀ q : Int, Ev (tOp (rEqD K) (tCB (rLenU K) (tCons (tVar 0) tNil)) (tC (.int q))) (start ["thing", "deep", "part"] [v0, v1]) H0 (.bl (((r.length + 1 : Nat) : Int) == q)) := fun q => ev_eq (evd_i (ev_lenT (evd_var d0))) evd_int rfl rfl
            refine s_ifD (b := sumHead z (r.length + 1)) (et_is (et_or (et_and (et_test (ev_inT (neg := false) i0 (evd_ref (hW _)) rfl (flat_strs _))) fun _ => et_test (len 3)) fun _ => et_and (et_test (ev_eq i0 evd_str okz (by decide +kernel))) fun _ => et_test (len 4)) ?_) (x2.trans e3) (fun hb H4 e4 => ?_) fun hb H4 e4 => ?_
            · unfold sumHead
              rw [show (if false = true then _ else inD (PyData.str z) (wordsS.map PyData.str)) = inD (PyData.str z) (wordsS.map PyData.str) from rfl, inD_str]
              have e3 : (((r.length + 1 : Nat) : Int) == 3) = (r.length + 1 == 3) := by rw [Bool.eq_iff_iff]; simp; omega
              have e4 : (((r.length + 1 : Nat) : Int) == 4) = (r.length + 1 == 4) := by rw [Bool.eq_iff_iff]; simp; omega
              rw [e3, e4]
              rfl
            · have hlen : r.length ≤ 3 := by
                unfold sumHead at hb
                simp at hb
                omega
              have sl : EvD K (tSl (rSlU K) (tVar 0) (tPart (tC (.int 1))) tNoPart) (start ["thing", "deep", "part"] [v0, v1]) H0 (.tuple r) := evd_is (evd_slT (evd_var d0) (eo_i (K := K) evd_int) eo_none) (congrArg PyData.tuple (cut_tail _ _))
              refine ((k2.go e3).go e4).ret ((x2.trans e3).trans e4) (evd_b (ev_notD (evd_lcT (fun d => !isSum m d) id sl (by omega) (fun _ => rfl) (fun v d H5 _ hm hv => et_not (et_b (ev_bl (evd_call (eds_cons (evd_var hv) (eds_cons (evd_i (ev_is (ev_I0 (K := K) (evd_var (d := .int ((m + 1 : Nat) : Int)) ?_) evd_int) ?_)) eds_nil)) ⟨d, rfl, ok_tup ok (List.mem_cons_of_mem _ hm), rfl⟩)))) fun v d H5 _ _ _ hv => evd_var hv) (ok_lst_of ?_))) (congrArg PyData.bool ?_)
              · exact dp_ex (by assumption) _ _ d1
              · show V.int (((m + 1 : Nat) : Int) - 1) = V.int (m : Int)
                congr 1
                omega
              · intro d hd
                rw [List.map_id] at hd
                exact ok_tup ok (List.mem_cons_of_mem _ (List.mem_filter.mp hd).1)
              · show (!(!(List.map id (r.filter fun d => !isSum m d)).isEmpty)) = (sumHead z (r.length + 1) && r.all (isSum m))
                rw [hb, Bool.true_and, Bool.not_not, List.isEmpty_map, Bool.eq_iff_iff, List.isEmpty_iff, List.filter_eq_nil_iff, List.all_eq_true]
                simp
            · refine no (e3.trans e4) ?_
              show (sumHead z (r.length + 1) && _) = false
              rw [hb, Bool.false_and]
theorem all_is_sum {f : Addr} {fd : FuncData} (F : FnP K "is_sum" "is_sum" s_is_sum f fd) (g : mg "is_sum" = some (.ref f)) (T : Tx mg) {a_WORDS : Addr} (m_WORDS : mg "WORDS" = some (.ref a_WORDS)) (b_WORDS : ∀ H, Dt K H (.ref a_WORDS) (.tuple (wordsS.map PyData.str)))  (h_is_within : Has P w K mg base CX0 1 "is_within" ["thing", "low", "high"] (spD K F_is_within)) (m_ROUND : ∃ t, mg "ROUND" = some (.int 10000 t)) (h_is_name : Has P w K mg base CX0 1 "is_name" ["thing"] (spD K F_is_name)) : ∀ n : Nat, HasF P w K mg base CX0 (n + 2) "is_sum" ["thing", "deep"] (spD K (F_is_sum n)) f fd
  | 0 => step_is_sum F g T 0 (h_is_sum := has_never F g (F.bindsN fun _ _ _ _ _ _ us hl => match us, hl with | [_, _], _ => rfl) _ fun _ _ z => z) (m_WORDS := m_WORDS) (b_WORDS := b_WORDS) (h_is_within := h_is_within) (m_ROUND := m_ROUND) (h_is_name := h_is_name)
  | n + 1 => step_is_sum F g T (n + 1) (h_is_sum := (all_is_sum F g T (m_WORDS := m_WORDS) (b_WORDS := b_WORDS) (h_is_within := h_is_within) (m_ROUND := m_ROUND) (h_is_name := h_is_name) n).has) (m_WORDS := m_WORDS) (b_WORDS := b_WORDS) (h_is_within := h_is_within) (m_ROUND := m_ROUND) (h_is_name := h_is_name)
theorem ok_is_sum {f : Addr} {fd : FuncData} (F : FnP K "is_sum" "is_sum" s_is_sum f fd) (g : mg "is_sum" = some (.ref f)) (T : Tx mg) {a_WORDS : Addr} (m_WORDS : mg "WORDS" = some (.ref a_WORDS)) (b_WORDS : ∀ H, Dt K H (.ref a_WORDS) (.tuple (wordsS.map PyData.str)))  (h_is_within : Has P w K mg base CX0 1 "is_within" ["thing", "low", "high"] (spD K F_is_within)) (m_ROUND : ∃ t, mg "ROUND" = some (.int 10000 t)) (h_is_name : Has P w K mg base CX0 1 "is_name" ["thing"] (spD K F_is_name)) : Has P w K mg base CX0 8 "is_sum" ["thing", "deep"] (spD K (F_is_sum 6)) :=
  (all_is_sum F g T (m_WORDS := m_WORDS) (b_WORDS := b_WORDS) (h_is_within := h_is_within) (m_ROUND := m_ROUND) (h_is_name := h_is_name) 6).has
theorem sc_is_row : FnScope ["thing"] ["thing"] (defScope s_is_row) := ⟨rfl, rfl, rfl, by decide +kernel, rfl, by decide +kernel, by decide +kernel⟩
theorem ok_is_row {f : Addr} {fd : FuncData} (F : FnP K "is_row" "is_row" s_is_row f fd) (g : mg "is_row" = some (.ref f)) (T : Tx mg) (h_is_sum : Has P w K mg base CX0 8 "is_sum" ["thing", "deep"] (spD K (F_is_sum 6))) (m_MOST_DEEP : ∃ t, mg "MOST_DEEP" = some (.int 6 t)) (h_is_name : Has P w K mg base CX0 1 "is_name" ["thing"] (spD K F_is_name)) : Has P w K mg base CX0 9 "is_row" ["thing"] (spD K F_is_row) := by
  have nd := (sc_is_row).nd
  refine has_d (FF := F_is_row) F g (F.bindsN fun _ _ _ _ _ _ us hl => match us, hl with | [_], _ => rfl) sc_is_row (by rintro _ _ ⟨_, rfl, _⟩; rfl) (fun cdv A outer s H vs Q E ds d H0 hr x hd hf k => ?_)
  obtain ⟨a, rfl, ok, rfl⟩ := hf
  obtain ⟨v0, rfl, d0⟩ := dts1 hd
  refine ⟨_, (pss_cons (ps_if (PW.pt (pw_or (pt_not (kTruth (K := K) rfl (pe_callB (kIsi (K := K) rfl) rfl (T.free (by decide)) boot_isinstance (pa_cons (pv 0) (pa_cons (pe_bltn (v := .ty "tuple") rfl (T.free (by decide)) boot_tuple rfl) pa_nil))))) (pw_or (pt_not (kTruth (K := K) rfl (pv 0))) (pw_or1 (pt_not (kTruth (K := K) rfl (pe_callB (kIsi (K := K) rfl) rfl (T.free (by decide)) boot_isinstance (pa_cons (pe_ix (kIx (K := K) rfl) (pv 0) pe_int (fun _ _ => rfl)) (pa_cons (pe_bltn (v := .ty "str") rfl (T.free (by decide)) boot_str rfl) pa_nil))))))))) (pss_one (ps_ret pe_bl)) pss_nil)
      (pss_cons (ps_if (pt_cmpR (kEq (K := K) rfl hr.units) (pe_ix (kIx (K := K) rfl) (pv 0) pe_int (fun _ _ => rfl)) pe_str (nomark _)) (pss_one (ps_ret (pe_and (pe_cmpR (kEq (K := K) rfl hr.units) (pe_callB (kLen (K := K) rfl) rfl (T.free (by decide)) boot_len (pa_cons (pv 0) pa_nil)) pe_int (nomark _)) (pe_one (pe_has h_is_sum hr (by omega) rfl pass0 (pa_cons (pe_ix (kIx (K := K) rfl) (pv 0) pe_int (fun _ _ => rfl)) (pa_cons (pe_gint m_MOST_DEEP) pa_nil))))))) pss_nil)
      (pss_one (ps_ret (pe_and (pe_cmpR (kEq (K := K) rfl hr.units) (pe_ix (kIx (K := K) rfl) (pv 0) pe_int (fun _ _ => rfl)) pe_str (nomark _)) (pe_and (pe_cmpR (kEq (K := K) rfl hr.units) (pe_callB (kLen (K := K) rfl) rfl (T.free (by decide)) boot_len (pa_cons (pv 0) pa_nil)) pe_int (nomark _)) (pe_and (pe_has h_is_name hr (by omega) rfl pass0 (pa_cons (pe_ix (kIx (K := K) rfl) (pv 0) pe_int (fun _ _ => rfl)) pa_nil)) (pe_one (pe_has h_is_sum hr (by omega) rfl pass0 (pa_cons (pe_ix (kIx (K := K) rfl) (pv 0) pe_int (fun _ _ => rfl)) (pa_cons (pe_gint m_MOST_DEEP) pa_nil))))))))))), ?_⟩
  have k : Rt K H0 H (.bool (isRow a)) Q := k
  have no : ∀ {H3 : Hp}, Ex H H3 → isRow a = false → tRet (tC (.bl false)) { nx := fun _ H' => Q .non H', rt := Q } (start ["thing"] [v0]) H3 := fun e3 z => (k.go e3).ret (x.trans e3) evd_bl (congrArg PyData.bool z.symm)
  cases hT : isT a "tuple" with
  | false =>
    refine s_yes (et_or (a := true) (b := true) (et_not (a := false) (et_is (et_b (ev_isi (evd_var d0) (by decide))) hT)) fun z => nomatch z) x fun H1 e1 => no e1 ?_
    cases a <;> first | rfl | simp [isT, tyN] at hT
  | true =>
    obtain ⟨ds, rfl⟩ := isT_tup hT
    cases ds with
    | nil =>
      refine s_yes (et_or (a := false) (b := true) (et_not (a := true) (et_is (et_b (ev_isi (evd_var d0) (by decide))) hT)) fun _ => et_or (a := true) (b := true) (et_not (a := false) (et_d (evd_var d0) ok)) fun z => nomatch z) x fun H1 e1 => no e1 rfl
    | cons w r =>
      have i0 : EvD K (tOp (rIx K) (tVar 0) (tC (.int 0))) (start ["thing"] [v0]) H0 w := evd_ixT (evd_var d0) evd_int (atI_0 _ _)
      cases hw : isT w "str" with
      | false =>
        refine s_yes (et_or (a := false) (b := true) (et_not (a := true) (et_is (et_b (ev_isi (evd_var d0) (by decide))) hT)) fun _ => et_or (a := false) (b := true) (et_not (a := true) (et_d (evd_var d0) ok)) fun _ => et_not (a := false) (et_is (et_b (ev_isi i0 (by decide))) hw)) x fun H1 e1 => no e1 ?_
        cases w <;> first | rfl | simp [isT, tyN] at hw
      | true =>
        obtain ⟨z, rfl⟩ := isT_str hw
        refine s_nay (et_or (a := false) (b := false) (et_not (a := true) (et_is (et_b (ev_isi (evd_var d0) (by decide))) hT)) fun _ => et_or (a := false) (b := false) (et_not (a := true) (et_d (evd_var d0) ok)) fun _ => et_not (a := true) (et_is (et_b (ev_isi i0 (by decide))) hw)) x fun H1 e1 => ?_
        have okz : SeqAt.shaped (PyData.str z) = true := shapedS (ok_tup ok (List.mem_cons_self ..))
        have len : ∀ q : Int, Ev (tOp (rEqD K) (tCB (rLenU K) (tCons (tVar 0) tNil)) (tC (.int q))) (start ["thing"] [v0]) H0 (.bl (((r.length + 1 : Nat) : Int) == q)) := fun q => ev_eq (evd_i (ev_lenT (evd_var d0))) evd_int rfl rfl
        refine s_ifD (b := decide (z = "show")) (et_is (et_test (ev_eq i0 evd_str okz (by decide +kernel))) ?_) (x.trans e1) (fun hb H2 e2 => ?_) fun hb H2 e2 => ?_
        · show (z == ("show" : Str)) = decide (z = "show")
          rw [Bool.eq_iff_iff]; simp
        · have ez : z = "show" := of_decide_eq_true hb
          subst ez
          cases hr2 : (((r.length + 1 : Nat) : Int) == 2) with
          | false =>
            refine ((k.go e1).go e2).ret ((x.trans e1).trans e2) (evd_b (ev_andV (a := false) (b := true) (ev_is (len 2) (by rw [hr2])) fun z => nomatch z)) (congrArg PyData.bool ?_)
            match r with
            | [] => rfl
            | [_] => simp at hr2
            | [b, c] => show (false && true) = (decide (("show" : Str) = "set") && (isName b && isSum 6 c)); rw [decide_eq_false (by decide +kernel)]; rfl
            | _ :: _ :: _ :: _ => rfl
          | true =>
            obtain ⟨b, rfl⟩ : ∃ b, r = [b] := by
              match r with
              | [] => simp at hr2
              | [b] => exact ⟨b, rfl⟩
              | _ :: _ :: _ => simp at hr2 <;> omega
            refine ((k.go e1).go e2).ret ((x.trans e1).trans e2) (evd_b (ev_andV (a := true) (b := isSum 6 b) (ev_is (len 2) (by rw [hr2])) fun _ => ev_bl (evd_call (eds_cons (evd_ixT (evd_var d0) evd_int (atI_1 _ _ _)) (eds_cons evd_int eds_nil)) ⟨b, rfl, ok_tup ok (by simp), rfl⟩))) (congrArg PyData.bool ?_)
            show (true && isSum 6 b) = (decide (("show" : Str) = "show") && isSum 6 b)
            rw [decide_eq_true rfl]
        · have nz : ¬ z = "show" := of_decide_eq_false hb
          cases hz : decide (z = "set") with
          | false =>
            refine ((k.go e1).go e2).ret ((x.trans e1).trans e2) (evd_b (ev_andV (a := false) (b := true) (ev_is (ev_eq i0 evd_str okz (by decide +kernel)) ?_) fun z => nomatch z)) (congrArg PyData.bool ?_)
            · show V.bl (z == ("set" : Str)) = V.bl false
              rw [← hz]; rfl
            · match r with
              | [] => rfl
              | [b] => show (false && true) = (decide (z = "show") && isSum 6 b); rw [hb]; rfl
              | [b, c] => show (false && true) = (decide (z = "set") && (isName b && isSum 6 c)); rw [hz]; rfl
              | _ :: _ :: _ :: _ => rfl
          | true =>
            have e0 : V.bl (PyData.eqv (.str z) (.str "set")) = V.bl true := by
              show V.bl (z == ("set" : Str)) = V.bl true
              rw [← hz]; rfl
            cases hr2 : (((r.length + 1 : Nat) : Int) == 3) with
            | false =>
              refine ((k.go e1).go e2).ret ((x.trans e1).trans e2) (evd_b (ev_andV (a := true) (b := false) (ev_is (ev_eq i0 evd_str okz (by decide +kernel)) e0) fun _ => ev_andV (a := false) (b := true) (ev_is (len 3) (by rw [hr2])) fun z => nomatch z)) (congrArg PyData.bool ?_)
              match r with
              | [] => rfl
              | [b] => show (true && (false && true)) = (decide (z = "show") && isSum 6 b); rw [hb]; rfl
              | [_, _] => simp at hr2
              | _ :: _ :: _ :: _ => rfl
            | true =>
              obtain ⟨b, c, rfl⟩ : ∃ b c, r = [b, c] := by
                match r with
                | [] => simp at hr2
                | [b] => simp at hr2
                | [b, c] => exact ⟨b, c, rfl⟩
                | _ :: _ :: _ :: _ => simp at hr2 <;> omega
              refine ((k.go e1).go e2).ret ((x.trans e1).trans e2) (evd_b (ev_andV (a := true) (b := isName b && isSum 6 c) (ev_is (ev_eq i0 evd_str okz (by decide +kernel)) e0) fun _ => ev_andV (a := true) (b := isName b && isSum 6 c) (ev_is (len 3) (by rw [hr2])) fun _ => ev_andV (ev_bl (evd_call (eds_cons (evd_ixT (evd_var d0) evd_int (atI_1 _ _ _)) eds_nil) ⟨b, rfl, ok_tup ok (by simp), rfl⟩)) fun _ =>
                ev_bl (evd_call (eds_cons (evd_ixT (evd_var d0) evd_int (atI_2 _ _ _ _)) (eds_cons evd_int eds_nil)) ⟨c, rfl, ok_tup ok (by simp), rfl⟩))) (congrArg PyData.bool ?_)
              show (true && (true && (isName b && isSum 6 c))) = (decide (z = "set") && (isName b && isSum 6 c))
              rw [hz]
              rfl
theorem sc_is_source : FnScope ["thing", "row"] ["thing"] (defScope s_is_source) := ⟨rfl, rfl, rfl, by decide +kernel, rfl, by decide +kernel, by decide +kernel⟩
theorem ok_is_source {f : Addr} {fd : FuncData} (F : FnP K "is_source" "is_source" s_is_source f fd) (g : mg "is_source" = some (.ref f)) (T : Tx mg) (h_is_row : Has P w K mg base CX0 9 "is_row" ["thing"] (spD K F_is_row)) (m_MOST_ROWS : ∃ t, mg "MOST_ROWS" = some (.int 8 t)) : Has P w K mg base CX0 10 "is_source" ["thing"] (spD K F_is_source) := by
  have nd := (sc_is_source).nd
  refine has_d (FF := F_is_source) F g (F.bindsN fun _ _ _ _ _ _ us hl => match us, hl with | [_], _ => rfl) sc_is_source (by rintro _ _ ⟨_, rfl, _⟩; rfl) (fun cdv A outer s H vs Q E ds d H0 hr x hd hf k => ?_)
  obtain ⟨a, rfl, ok, rfl⟩ := hf
  obtain ⟨v0, rfl, d0⟩ := dts1 hd
  refine ⟨_, (pss_cons (ps_if (PW.pt (pw_or (pt_not (kTruth (K := K) rfl (pe_callB (kIsi (K := K) rfl) rfl (T.free (by decide)) boot_isinstance (pa_cons (pv 0) (pa_cons (pe_bltn (v := .ty "tuple") rfl (T.free (by decide)) boot_tuple rfl) pa_nil))))) (pw_or1 (pt_cmpR op_gt (pe_callB (kLen (K := K) rfl) rfl (T.free (by decide)) boot_len (pa_cons (pv 0) pa_nil)) (pe_gint m_MOST_ROWS) (nomark _))))) (pss_one (ps_ret pe_bl)) pss_nil)
      (pss_one (ps_ret (kNot (K := K) rfl (pe_lc (own := [("row", 1)]) rfl nd (kSeq (K := K) rfl (pv 0)) (blkOk_by (N := ["thing", "row"]) (sc := defScope s_is_source) (own := [("row", 1)]) (by decide +kernel)) (fun _ _ _ _ _ => (pg_name (i := 1) nd rfl (Or.inl rfl))) (fun _ _ _ _ _ => (pts_one (pt_not (kTruth (K := K) rfl (pe_has h_is_row hr (by omega) rfl pass0 (pa_cons (pv 1) pa_nil)))))) (fun _ _ _ _ _ => (pv 1))))))), ?_⟩
  have k : Rt K H0 H (.bool (isSource a)) Q := k
  have no : ∀ {H3 : Hp}, Ex H H3 → isSource a = false → tRet (tC (.bl false)) { nx := fun _ H' => Q .non H', rt := Q } (start ["thing", "row"] [v0]) H3 := fun e3 z => (k.go e3).ret (x.trans e3) evd_bl (congrArg PyData.bool z.symm)
  cases hT : isT a "tuple" with
  | false =>
    refine s_yes (et_or (a := true) (b := true) (et_not (a := false) (et_is (et_b (ev_isi (evd_var d0) (by decide))) hT)) fun z => nomatch z) x fun H1 e1 => no e1 ?_
    cases a <;> first | rfl | simp [isT, tyN] at hT
  | true =>
    obtain ⟨ds, rfl⟩ := isT_tup hT
    refine s_ifD (b := decide ((8 : Int) < (ds.length : Int))) (et_or (a := false) (et_not (a := true) (et_is (et_b (ev_isi (evd_var d0) (by decide))) hT)) fun _ => et_test (ev_I0 (K := K) (evd_i (ev_lenT (evd_var d0))) evd_int)) x (fun hb H1 e1 => no e1 ?_) fun hb H1 e1 => ?_
    · have hb := of_decide_eq_true hb
      show (decide (ds.length ≤ 8) && _) = false
      rw [decide_eq_false (by omega), Bool.false_and]
    · have hb := of_decide_eq_false hb
      refine (k.go e1).ret (x.trans e1) (evd_b (ev_notD (evd_lcT (fun d => !isRow d) id (evd_var d0) (by omega) (fun _ => rfl) (fun v d H5 _ hm hv => et_not (et_b (ev_bl (evd_call (eds_cons (evd_var hv) eds_nil) ⟨d, rfl, ok_tup ok hm, rfl⟩)))) fun v d H5 _ _ _ hv => evd_var hv) (ok_lst_of ?_))) (congrArg PyData.bool ?_)
      · intro d hd
        rw [List.map_id] at hd
        exact ok_tup ok (List.mem_filter.mp hd).1
      · show (!(!(List.map id (ds.filter fun d => !isRow d)).isEmpty)) = (decide (ds.length ≤ 8) && ds.all isRow)
        rw [decide_eq_true (by omega), Bool.true_and, Bool.not_not, List.isEmpty_map, Bool.eq_iff_iff, List.isEmpty_iff, List.filter_eq_nil_iff, List.all_eq_true]
        simp
theorem sc_look : FnScope ["source"] ["source"] (defScope s_look) := ⟨rfl, rfl, rfl, by decide +kernel, rfl, by decide +kernel, by decide +kernel⟩
theorem ok_look {f : Addr} {fd : FuncData}  (F : FnP K "look" "look" s_look f fd) (g : mg "look" = some (.ref f)) (T : Tx mg) {c_BadSource : Addr} (h_is_source : Has P w K mg base CX0 10 "is_source" ["thing"] (spD K F_is_source)) (x_BadSource : ExcF K mg "BadSource" c_BadSource) : Has P w K mg base (L2.CX P w) 11 "look" ["source"] (spDX K c_BadSource F_look) := by
  have nd := (sc_look).nd
  refine has_x F g (F.bindsN fun _ _ _ _ _ _ us hl => match us, hl with | [_], _ => rfl) sc_look (by rintro _ _ _ _ ⟨_, _, _, _, hd, ⟨_, rfl, _⟩, _⟩; exact dpAll_len hd) (fun cdv A outer s H vs Q E hr h => ?_)
  obtain ⟨_, o, H0, x, hd, ⟨d, rfl, ok, rfl⟩, k1, k2⟩ := h
  obtain ⟨v0, rfl, d0⟩ := dts1 hd
  refine ⟨_, (pss_one (ps_if (pt_not (kTruth (K := K) rfl (pe_has h_is_source hr (by omega) rfl pass0 (pa_cons (pv 0) pa_nil)))) (pss_one (ps_raise rfl (takes_of rfl rfl rfl rfl) (pmk_own PySem.F.excBase_ValueError x_BadSource.q x_BadSource.g x_BadSource.k (raises_own x_BadSource.b x_BadSource.t) rfl))) pss_nil)), ?_⟩
  refine s_ifD (b := !isSource d) (et_not (et_b (ev_bl (evd_call (eds_cons (evd_var d0) eds_nil) ⟨d, rfl, ok, rfl⟩)))) x (fun hb H1 e1 => ?_) fun hb H1 e1 => ?_
  · have hb : isSource d = false := by simpa using hb
    rw [hb] at k2
    exact k2 rfl H1 e1
  · have hb : isSource d = true := by simpa using hb
    rw [hb] at k1
    exact k1 _ rfl .non H1 H0 (Gr.base x e1) .non
theorem sc_words_of : FnScope ["some", "found", "part"] ["some"] (defScope s_words_of) := ⟨rfl, rfl, rfl, by decide +kernel, rfl, by decide +kernel, by decide +kernel⟩
theorem step_words_of {f : Addr} {fd : FuncData} (F : FnP K "words_of" "words_of" s_words_of f fd) (g : mg "words_of" = some (.ref f)) (T : Tx mg) (n : Nat) (h_words_of : Has P w K mg base CX0 (n + 1) "words_of" ["some"] (spD K (Fprev F_words n))) : HasF P w K mg base CX0 (n + 2) "words_of" ["some"] (spD K (F_words n)) f fd := by
  have nd := (sc_words_of).nd
  refine hasF_d (FF := F_words n) F g (F.bindsN fun _ _ _ _ _ _ us hl => match us, hl with | [_], _ => rfl) sc_words_of (by rintro _ _ ⟨_, rfl, _⟩; rfl) (fun cdv A outer s H vs Q E ds d H0 hr x hd hf k => ?_)
  obtain ⟨s, rfl, hg, hn, h6, rfl⟩ := hf
  obtain ⟨v0, rfl, d0⟩ := dts1 hd
  refine ⟨_, (pss_cons (ps_if (pt_not (kTruth (K := K) rfl (pe_callB (kIsi (K := K) rfl) rfl (T.free (by decide)) boot_isinstance (pa_cons (pv 0) (pa_cons (pe_bltn (v := .ty "tuple") rfl (T.free (by decide)) boot_tuple rfl) pa_nil))))) (pss_one (ps_ret (pe_lst (pa_cons (pe_callTy kStr rfl (T.free (by decide)) boot_str (pa_cons (pv 0) pa_nil)) pa_nil)))) pss_nil)
      (pss_cons (ps_set (i := 1) nd rfl (Or.inl rfl) (pe_lst (pa_cons (pe_ix (kIx (K := K) rfl) (pv 0) pe_int (fun _ _ => rfl)) pa_nil)))
      (pss_cons (ps_for PassesOwn.never rfl (kSeq (K := K) rfl (pe_slice (kSl (K := K) rfl) (pv 0) (po_some pe_int) po_none)) (pg_name (i := 2) nd rfl (Or.inl rfl)) (pss_one (ps_expr (pe_bm PySem.F.plainAttrs_list PySem.F.slot_list_extend PySem.F.type_list_extend mt_extend (pv 1) (pa_cons (pe_has h_words_of hr (by omega) rfl pass0 (pa_cons (pv 2) pa_nil)) pa_nil)))))
      (pss_one (ps_ret (pv 1)))))), ?_⟩
  have k : Rt K H0 H (.list (s.words.map PyData.str)) Q := k
  cases hT : isT s.enc "tuple" with
  | false =>
    refine s_yes (et_not (a := false) (et_is (et_b (ev_isi (evd_var d0) (by decide))) hT)) x fun H1 e1 => ?_
    cases s with
    | num i =>
      have hg : (decide (0 ≤ i) && decide (i ≤ 9999)) = true := hg
      rw [Bool.and_eq_true, decide_eq_true_iff, decide_eq_true_iff] at hg
      exact (k.go e1).ret (x.trans e1) (evd_lst (eds_cons (evd_strI (evd_var d0) (num_log hg.1 hg.2)) eds_nil) (by simp)) rfl
    | nm z => exact (k.go e1).ret (x.trans e1) (evd_lst (eds_cons (evd_strS (evd_var d0)) eds_nil) (by simp)) rfl
    | op w a b => simp [Sm.enc, isT, tyN] at hT
    | ite a b c => simp [Sm.enc, isT, tyN] at hT
  | true =>
    refine s_nay (et_not (a := true) (et_is (et_b (ev_isi (evd_var d0) (by decide))) hT)) x fun H1 e1 => ?_
    obtain ⟨w, hw⟩ := s.enc_parts hT
    have d0' : Dt K H0 v0 (.tuple (.str w :: s.parts.map Sm.enc)) := hw ▸ d0
    have hws := Sm.words_parts hw
    have hlen := words_few h6
    obtain ⟨m, rfl⟩ : ∃ m, n = m + 1 := by
      cases n with
      | zero =>
        have hd0 : s.depth = 0 := by omega
        cases s <;> first | (simp [Sm.depth] at hd0; done) | (simp [Sm.enc, isT, tyN] at hT; done)
      | succ m => exact ⟨m, rfl⟩
    have tlen : ∀ i, ((s.parts.take i).flatMap Sm.words).length + 1 ≤ 1093 := fun i => by
      have := flat_take_len Sm.words s.parts i
      rw [hws, List.length_cons] at hlen
      omega
    refine s_newD (K := K) (i := 1) (ds := [.str w]) (eds_cons (evd_ixT (evd_var d0') evd_int (atI_0 _ _)) eds_nil) (x.trans e1) (by simp) fun p H2 hp a => ?_
    have hp0 : H0 p = none := fresh_back (x.trans e1) hp
    have x2 : Ex H0 H2 := a.base
    dsimp only
    refine s_forT (K := K) (evd_is (evd_slT (evd_var d0') (eo_i (K := K) evd_int) eo_none) (congrArg PyData.tuple (cut_tail _ _))) x2 fun H4 Hd gr => ?_
    have hpd : Hd p = none := gr.fr p hp0 (by obtain ⟨acc, q, _⟩ := a.at; rw [q]; exact fun z => nomatch z)
    refine ⟨fun i σ' H' => (∃ o, σ' = [some v0, some (.ref p), o]) ∧ Acc K Hd H1 p (.str w :: ((s.parts.take i).flatMap Sm.words).map PyData.str) H', ⟨⟨none, rfl⟩, (a.grow gr.ex).rebase gr.xd gr.d2 hpd⟩, fun i σ' H' q => q.2.base, ?_, ?_⟩
    · rintro i v d σ' H' hi hv ⟨⟨o, rfl⟩, q⟩
      rw [List.getElem?_map] at hi
      obtain ⟨t, ht, rfl⟩ := Option.map_eq_some_iff.mp hi
      have hm : t ∈ s.parts := List.mem_of_getElem? ht
      have hpd2 := Sm.parts_depth hm
      have tl1 := tlen (i + 1)
      refine s_ext (K := K) (i := 1) (p := p) rfl q hpd hp (evd_call (eds_cons (evd_var hv) eds_nil) ⟨t, rfl, Sm.parts_good hg hm, by omega, by omega, rfl⟩) ?_ fun H5 q5 _ => ⟨⟨_, rfl⟩, ?_⟩
      · rw [take_flat Sm.words ht, List.length_append] at tl1
        rw [List.length_cons, List.length_map, List.length_map]
        omega
      · rw [take_flat Sm.words ht, List.map_append]
        exact q5
    · rintro σ' H' ⟨⟨o, rfl⟩, q⟩
      refine ⟨_, rfl, Acc.ret k q gr.xd (fun b h0 h1 => gr.fr b h0 (ne_none (e1.trans a.1) h1)) e1 hp ?_⟩
      rw [List.length_map, List.take_length, hws]
      rfl
theorem all_words_of {f : Addr} {fd : FuncData} (F : FnP K "words_of" "words_of" s_words_of f fd) (g : mg "words_of" = some (.ref f)) (T : Tx mg)  : ∀ n : Nat, HasF P w K mg base CX0 (n + 2) "words_of" ["some"] (spD K (F_words n)) f fd
  | 0 => step_words_of F g T 0 (h_words_of := has_never F g (F.bindsN fun _ _ _ _ _ _ us hl => match us, hl with | [_], _ => rfl) _ fun _ _ z => z) 
  | n + 1 => step_words_of F g T (n + 1) (h_words_of := (all_words_of F g T  n).has) 
theorem ok_words_of {f : Addr} {fd : FuncData} (F : FnP K "words_of" "words_of" s_words_of f fd) (g : mg "words_of" = some (.ref f)) (T : Tx mg)  : Has P w K mg base CX0 8 "words_of" ["some"] (spD K (F_words 6)) :=
  (all_words_of F g T  6).has
theorem sc_text_of : FnScope ["source", "row"] ["source"] (defScope s_text_of) := ⟨rfl, rfl, rfl, by decide +kernel, rfl, by decide +kernel, by decide +kernel⟩
theorem ok_text_of {f : Addr} {fd : FuncData} (F : FnP K "text_of" "text_of" s_text_of f fd) (g : mg "text_of" = some (.ref f)) (T : Tx mg) (h_words_of : Has P w K mg base CX0 8 "words_of" ["some"] (spD K (F_words 6))) : Has P w K mg base CX0 9 "text_of" ["source"] (spD K F_textof) := by
  have nd := (sc_text_of).nd
  refine has_d (FF := F_textof) F g (F.bindsN fun _ _ _ _ _ _ us hl => match us, hl with | [_], _ => rfl) sc_text_of (by rintro _ _ ⟨_, rfl, _⟩; rfl) (fun cdv A outer s H vs Q E ds d H0 hr x hd hf k => ?_)
  obtain ⟨src, rfl, hg, rfl⟩ := hf
  obtain ⟨v0, rfl, d0⟩ := dts1 hd
  refine ⟨_, (pss_one (ps_ret (kJoin (K := K) rfl pe_str (pe_lc (own := [("row", 1)]) rfl nd (kSeq (K := K) rfl (pv 0)) (blkOk_by (N := ["source", "row"]) (sc := defScope s_text_of) (own := [("row", 1)]) (by decide +kernel)) (fun _ _ _ _ _ => (pg_name (i := 1) nd rfl (Or.inl rfl))) (fun _ _ _ _ _ => pts_nil) (fun _ _ _ _ _ => (kJoin (K := K) rfl pe_str (pe_op (kAdd (K := K) rfl) (pe_callTy (kLst (K := K) rfl) rfl (T.free (by decide)) boot_list (pa_cons (pe_slice (kSl (K := K) rfl) (pv 1) po_none (po_some (pe_un un_neg pe_int))) pa_nil)) (pe_has h_words_of hr (by omega) rfl pass0 (pa_cons (pe_ix (kIx (K := K) rfl) (pv 1) (pe_un un_neg pe_int) (fun _ _ => rfl)) pa_nil))))))))), ?_⟩
  have k : Rt K H0 H (.str (textS src)) Q := k
  have h8 := goodS_len hg
  refine k.ret x (evd_join (ys := src.map lineS) (evd_is (evd_lcT (fun _ => true) (fun d => .str (lineD d)) (evd_var d0) (by rw [List.length_map]; omega) (fun _ => rfl) (fun _ _ _ _ _ _ => et_yesT) fun v d H1 _ hm _ hv => ?_) ?_) (text_size hg)) rfl
  rotate_left
  · rw [List.filter_eq_self.mpr fun _ _ => rfl, List.map_map, List.map_map]
    refine congrArg PyData.list (List.map_congr_left fun r hr => ?_)
    exact congrArg PyData.str (lineD_enc (good_row hg hr))
  obtain ⟨r, hr, rfl⟩ := List.mem_map.mp hm
  have hgr := good_row hg hr
  obtain ⟨gs, ds6⟩ := row_depth hgr
  have wf := words_few ds6
  have m1 : ∀ {σ : L2.St} {H : Hp}, EvD K (tUn (rU fun i => .int (-i)) (tC (.int 1))) σ H (.int (-1)) := evd_i (ev_un (x := .int 1) ev_c ru_neg)
  obtain ⟨ds, hds, hcut⟩ := cut_init (r := r)
  have hl2 : r.heads.length ≤ 2 := by cases r <;> simp [Rw.heads]
  have hvd : Dt K H1 v (.tuple ds) := hds ▸ hv
  show EvD K _ _ H1 (.str (lineD r.enc))
  rw [lineD_enc hgr]
  exact evd_join (ys := r.words) (evd_is (evd_addL (evd_lstT (evd_is (evd_slT (evd_var hvd) eo_none (eo_i (K := K) m1)) (congrArg PyData.tuple hcut))) (evd_call (eds_cons (evd_last (evd_var hv)) eds_nil) ⟨r.sum, rfl, gs, ds6, ds6, rfl⟩) (by rw [List.length_map, List.length_map]; omega)) (by rw [heads_words, List.map_append])) (line_size hgr)
theorem sc_shown : FnScope ["source"] ["source"] (defScope s_shown) := ⟨rfl, rfl, rfl, by decide +kernel, rfl, by decide +kernel, by decide +kernel⟩
theorem ok_shown {f : Addr} {fd : FuncData}  (F : FnP K "shown" "shown" s_shown f fd) (g : mg "shown" = some (.ref f)) (T : Tx mg) {c_BadSource : Addr} (h_text_of : Has P w K mg base CX0 9 "text_of" ["source"] (spD K F_textof)) (h_look : Has P w K mg base (L2.CX P w) 11 "look" ["source"] (spDX K c_BadSource F_look)) : Has P w K mg base (L2.CX P w) 12 "shown" ["source"] (spDX K c_BadSource F_shown) := by
  have nd := (sc_shown).nd
  refine has_x F g (F.bindsN fun _ _ _ _ _ _ us hl => match us, hl with | [_], _ => rfl) sc_shown (by rintro _ _ _ _ ⟨_, _, _, _, hd, ⟨_, rfl, _⟩, _⟩; exact dpAll_len hd) (fun cdv A outer s H vs Q E hr h => ?_)
  obtain ⟨_, o, H0, x, hd, ⟨src, rfl, hg, rfl⟩, k1, k2⟩ := h
  obtain ⟨v0, rfl, d0⟩ := dts1 hd
  refine ⟨_, (pss_cons (ps_expr (pe_has h_look hr (by omega) rfl (passes_call (takes_of rfl rfl rfl rfl) fun _ _ _ _ h => h) (pa_cons (pv 0) pa_nil)))
      (pss_one (ps_ret (pe_has h_text_of hr (by omega) rfl pass0 (pa_cons (pv 0) pa_nil))))), ?_⟩
  refine s_callX (cB := c_BadSource) (eds_cons (evd_var d0) eds_nil) x ⟨encS src, rfl, ok_src src hg, rfl⟩ (fun z e H1 e1 => ?_) fun e H1 e1 => ?_
  · exact ((k1 _ rfl).go e1).ret (x.trans e1) (evd_call (eds_cons (evd_var d0) eds_nil) ⟨src, rfl, hg, rfl⟩) rfl
  · rw [isSource_enc src hg] at e
    cases e
theorem sc_sum_at : FnScope ["words", "at", "deep", "word", "found", "time", "part", "sign"] ["words", "at", "deep"] (defScope s_sum_at) := ⟨rfl, rfl, rfl, by decide +kernel, rfl, by decide +kernel, by decide +kernel⟩
theorem ok_sum_at {f : Addr} {fd : FuncData} {n : Nat} (F : FnP K "sum_at" "sum_at" s_sum_at f fd) (g : mg "sum_at" = some (.ref f)) (T : Tx mg) {c_BadText : Addr} (m_FIGURES : ∃ t, mg "FIGURES" = some (.str figuresS t)) {a_WORDS : Addr} (m_WORDS : mg "WORDS" = some (.ref a_WORDS)) (b_WORDS : ∀ H, Dt K H (.ref a_WORDS) (.tuple (wordsS.map PyData.str))) (h_sum_at : Has P w K mg base (L2.CX P w) (n + 1) "sum_at" ["words", "at", "deep"] (spDX K c_BadText (F_sumatP n))) (x_BadText : ExcF K mg "BadText" c_BadText) : Has P w K mg base (L2.CX P w) (n + 2) "sum_at" ["words", "at", "deep"] (spDX K c_BadText (F_sumat n)) := by
  have nd := (sc_sum_at).nd
  refine has_x F g (F.bindsN fun _ _ _ _ _ _ us hl => match us, hl with | [_, _, _], _ => rfl) sc_sum_at (by rintro _ _ _ _ ⟨_, _, _, _, hd, ⟨_, _, rfl, _⟩, _⟩; exact dpAll_len hd) (fun cdv A outer s H vs Q E hr h => ?_)
  obtain ⟨_, o, H0, x, hd, ⟨ws, p, rfl, hok, h7, rfl⟩, k1, k2⟩ := h
  obtain ⟨v0, v1, v2, rfl, d0, d1, d2⟩ := dts3 hd
  obtain rfl := dp_int d1
  obtain rfl := dp_int d2
  refine ⟨_, (pss_cons (ps_if (PW.pt (pw_or (pt_cmpR op_ge (pv 1) (pe_callB (kLen (K := K) rfl) rfl (T.free (by decide)) boot_len (pa_cons (pv 0) pa_nil)) (nomark _)) (pw_or1 (pt_cmpR op_lt (pv 2) pe_int (nomark _))))) (pss_one (ps_raise rfl (takes_of rfl rfl rfl rfl) (pmk_own PySem.F.excBase_ValueError x_BadText.q x_BadText.g x_BadText.k (raises_own x_BadText.b x_BadText.t) rfl))) pss_nil)
      (pss_cons (ps_set (i := 3) nd rfl (Or.inl rfl) (pe_ix (kIx (K := K) rfl) (pv 0) (pv 1) (fun _ _ => rfl)))
      (pss_cons (ps_aug (i := 1) nd rfl (.inl rfl) pe_int ip_add)
      (pss_cons (ps_if (PW.pt (pw_or (pt_cmpR (kIn (K := K) rfl) (pv 3) (pe_gref m_WORDS) rfl) (pw_or1 (pt_cmpR (kEq (K := K) rfl hr.units) (pv 3) pe_str (nomark _))))) (pss_cons (ps_set (i := 4) nd rfl (Or.inl rfl) (pe_lst (pa_cons (pv 3) pa_nil)))
      (pss_cons (ps_for (passes_of rfl) rfl (pi_range1 rfl (T.free (by decide)) (pa_cons (pe_op (kAdd (K := K) rfl) pe_int (pe_callTy call_int1 rfl (T.free (by decide)) boot_int (pa_cons (pe_cmpR (kEq (K := K) rfl hr.units) (pv 3) pe_str (nomark _)) pa_nil))) pa_nil)) (pg_name (i := 5) nd rfl (Or.inl rfl)) (pss_cons (ps_asg (pe_has h_sum_at hr (by omega) rfl (passes_call (takes_of rfl rfl rfl rfl) fun _ _ _ _ h => h) (pa_cons (pv 0) (pa_cons (pv 1) (pa_cons (pe_op op_sub (pv 2) pe_int) pa_nil)))) (pg_tup rfl (pgs_cons (pg_name (i := 6) nd rfl (Or.inl rfl)) (pgs_cons (pg_name (i := 1) nd rfl (Or.inl rfl)) pgs_nil))))
      (pss_one (ps_expr (pe_bm PySem.F.plainAttrs_list PySem.F.slot_list_append PySem.F.type_list_append mt_append (pv 4) (pa_cons (pv 6) pa_nil))))))
      (pss_one (ps_ret (pe_tup (pa_cons (pe_callTy (kTup (K := K) rfl) rfl (T.free (by decide)) boot_tuple (pa_cons (pv 4) pa_nil)) (pa_cons (pv 1) pa_nil))))))) pss_nil)
      (pss_cons (ps_if (PW.pt (pw_and (pt_cmpR (kNe (K := K) rfl hr.units) (pv 3) pe_str (nomark _)) (pw_and (pt_cmpR op_lt (pe_callB (kLen (K := K) rfl) rfl (T.free (by decide)) boot_len (pa_cons (pv 3) pa_nil)) pe_int (nomark _)) (pw_and1 (pt_not (kTruth (K := K) rfl (pe_lc (own := [("sign", 7)]) rfl nd (kSeq (K := K) rfl (pv 3)) (blkOk_by (N := ["words", "at", "deep", "word", "found", "time", "part", "sign"]) (sc := defScope s_sum_at) (own := [("sign", 7)]) (by decide +kernel)) (fun _ _ _ _ _ => (pg_name (i := 7) nd rfl (Or.inl rfl))) (fun _ _ _ _ _ => (pts_one (pt_cmpR (kNotIn (K := K) rfl) (pv 7) (pe_gstr m_FIGURES) rfl))) (fun _ _ _ _ _ => (pv 7))))))))) (pss_one (ps_ret (pe_tup (pa_cons (pe_callTy call_int_str rfl (T.free (by decide)) boot_int (pa_cons (pv 3) pa_nil)) (pa_cons (pv 1) pa_nil))))) pss_nil)
      (pss_one (ps_ret (pe_tup (pa_cons (pv 3) (pa_cons (pv 1) pa_nil)))))))))), ?_⟩
  refine s_ifD (b := decide ((ws.length : Int) ≤ (p : Int)) || decide ((n : Int) - 1 < 0)) (et_or (et_is (et_test (ev_I0 (K := K) (evd_var d1) (evd_i (ev_lenL (evd_var d0))))) (by rw [List.length_map])) fun _ => et_test (ev_I0 (K := K) (evd_var d2) evd_int)) x (fun hb H1 e1 => ?_) fun hb H1 e1 => ?_
  · refine k2 ?_ H1 e1
    rw [Bool.or_eq_true, decide_eq_true_iff, decide_eq_true_iff] at hb
    rw [sumAt_none (by omega)]
    rfl
  rw [Bool.or_eq_false_iff, decide_eq_false_iff_not, decide_eq_false_iff_not] at hb
  obtain ⟨m, rfl⟩ : ∃ m, n = m + 1 := ⟨n - 1, by omega⟩
  obtain ⟨w, hw⟩ : ∃ w, ws[p]? = some w := ⟨_, List.getElem?_eq_getElem (by omega)⟩
  have hwo := hok w (List.mem_of_getElem? hw)
  have shw := shapedS (okT_ok hwo)
  have x1 := x.trans e1
  refine s_asg (ev_str (evd_ixL (evd_var (dp_ex x1 _ _ d0)) (evd_var (dp_ex x1 _ _ d1)) (atI_strs hw))) fun H2 e2 => ?_
  dsimp only
  refine ⟨_, rfl, (p : Int), 1, rfl, rfl, ?_⟩
  dsimp only
  have x2 := x1.trans e2
  have hW : ∀ H1, Dt K H1 (.ref a_WORDS) (.tuple (wordsS.map PyData.str)) := fun H1 => b_WORDS H1
  have eqIf : ∀ {σ : L2.St} {H : Hp}, σ[3]? = some (some (.str w)) → Ev (tOp (rEqD K) (tVar 3) (tC (.str "if"))) σ H (.bl (decide (w = "if"))) := fun h3 => ev_is (ev_eq (evd_var (.str w) h3) evd_str shw (by decide +kernel)) (by rw [eqv_strT])
  refine s_ifD (H0 := H2) (b := headT w) (et_or (et_is (et_test (ev_inT (neg := false) (evd_var (.str w)) (evd_ref (hW _)) rfl (flat_strs _))) (by simp [inD_str])) fun _ => et_test (eqIf rfl)) (Ex.refl _) (fun hh H3 e3 => ?_) fun hh H3 e3 => ?_
  · have x3 := x2.trans e3
    have eH3 := (e1.trans e2).trans e3
    refine s_newD (K := K) (A := H0) (i := 4) (ds := [.str w]) (eds_cons (evd_var (.str w)) eds_nil) x3 (by simp) fun pf H4 hp a => ?_
    have hp0 : H0 pf = none := fresh_back x3 hp
    dsimp only
    obtain ⟨N, hN⟩ : ∃ N : Nat, N = 2 + if w = "if" then 1 else 0 := ⟨_, rfl⟩
    have hN3 : N ≤ 3 := by rw [hN]; split <;> omega
    refine s_forN (H0 := H0) (n := N) (eds_cons (evd_is (ev_addI (K := K) evd_int (evd_i (ev_intB (eqIf rfl)))) (congrArg PyData.int (by rw [hN]; by_cases q : w = "if" <;> simp [q]))) eds_nil) a.base (by omega) (fun i σ' H' => ∃ A o5 o6 o7 ps at_, σ' = [some v0, some (.int ((at_ : Nat) : Int)), some (.int (((m + 1 : Nat) : Int) - 1)), some (.str w), some (.ref pf), o5, o6, o7] ∧ partsAt (sumAt ws m) i (p + 1) = some (ps, at_) ∧ Ex H0 A ∧ (∀ b, H0 b = none → H3 b ≠ none → A b = none) ∧ A pf = none ∧ Acc K A H3 pf (.str w :: ps) H') (fun H5 e5 => ⟨H0, none, none, none, [], p + 1, rfl, rfl, Ex.refl _, fun _ h _ => h, hp0, a.grow e5⟩) ?_ ?_
    · rintro i σ' H' hi ⟨A, o5, o6, o7, ps, at_, rfl, hpa, xA, fr, hA, q⟩
      have hpl : ps.length = i := parts_len hpa
      dsimp only [List.set]
      refine s_asgX (K := K) (H0 := A) (ds := [.list (ws.map PyData.str), .int (at_ : Int), .int ((m : Int) - 1)]) (eds_cons (evd_var (dp_ex xA _ _ d0)) (eds_cons (evd_var (.int _)) (eds_cons (evd_is (evd_i (ev_I0 (K := K) (evd_var (.int _)) evd_int)) (congrArg PyData.int (by omega))) eds_nil))) q.base ⟨ws, at_, rfl, hok, by omega, rfl⟩ (fun d e v H5 Hd g5 hv => ?_) fun e H5 e5 => ?_
      · cases er : sumAt ws m at_ with
        | none => rw [er] at e; cases e
        | some r =>
          rw [er] at e
          cases e
          refine g_pairT (i := 6) (j := 1) hv g5.d2 fun x6 x1 h6 h1 => ?_
          obtain rfl := dp_int h1
          dsimp only [List.set]
          have hpd : Hd pf = none := g5.fr pf hA (by obtain ⟨acc, q, _⟩ := q.at; rw [q]; exact fun z => nomatch z)
          refine s_app (K := K) (i := 4) (p := pf) rfl ((q.grow g5.ex).rebase g5.xd g5.d2 hpd) hpd hp (evd_var h6) (by rw [List.length_cons, hpl]; omega) fun H7 q7 _ => ⟨Hd, _, _, _, ps ++ [r.1], r.2, rfl, ?_, xA.trans g5.xd, fun b h0 h1 => g5.fr b (fr b h0 h1) (ne_none q.1 h1), hpd, q7⟩
          show (partsAt (sumAt ws m) i (p + 1)).bind _ = _
          rw [hpa]
          show (sumAt ws m at_).map _ = _
          rw [er]
          rfl
      · refine k2 ?_ H5 ((eH3.trans q.1).trans e5)
        have er : sumAt ws m at_ = none := by
          cases er : sumAt ws m at_ with
          | none => rfl
          | some r => rw [er] at e; cases e
        have h1 : partsAt (sumAt ws m) (i + 1) (p + 1) = none := by
          show (partsAt (sumAt ws m) i (p + 1)).bind _ = _
          rw [hpa]
          show (sumAt ws m at_).map _ = _
          rw [er]
          rfl
        rw [sumAt_head hw hh, ← hN, parts_none h1 N (by omega)]
        rfl
    · rintro σ' H' ⟨A, o5, o6, o7, ps, at_, rfl, hpa, xA, fr, hA, q⟩
      dsimp only
      obtain ⟨Hd, g1, g2⟩ := q.done (H1 := H) xA (fun b h0 h1 => fr b h0 (ne_none eH3 h1)) eH3 hp
      have kk := k1 (LC.pairD (.tuple (.str w :: ps), at_)) (by rw [sumAt_head hw hh, ← hN, hpa]; rfl)
      exact (kk.seq g1).ret g1.d2 (evd_tup (eds_cons (evd_tupL (evd_var g2)) (eds_cons (evd_var (.int _)) eds_nil)) (by simp)) rfl
  · have kk := k1 (LC.pairD (leafT w, p + 1)) (by rw [sumAt_leaf hw hh]; rfl)
    have eH3 := (e1.trans e2).trans e3
    have x3 := x2.trans e3
    have okl : okD (.list ((w.cps.toList.filter fun c => !decide (c ∈ figuresS.cps.toList)).map fun c => PyData.str ⟨#[c]⟩)) = true := ok_lst_of fun d hd => by
      obtain ⟨c, hc, rfl⟩ := List.mem_map.mp hd
      exact ok_sign (okT_ok hwo) (List.mem_filter.mp hc).1
    refine s_ifD (H0 := H3) (b := numT w) (et_and (et_is (et_test (ev_ne (evd_var (.str w)) evd_str shw (by decide +kernel))) (by rw [eqv_strT])) fun _ => et_and (et_is (et_test (ev_I0 (K := K) (evd_i (ev_lenS (evd_var (.str w)) (sz_of (by have := hwo.1; omega)))) evd_int)) (decide_eq_decide.mpr (by omega))) fun h5 => et_is (et_not (et_d (evd_lcS (K := K) (x := w) (fun c => !decide (c ∈ figuresS.cps.toList)) (fun c => .str ⟨#[c]⟩) (evd_var (.str w)) (by have := of_decide_eq_true h5; omega) (fun _ => rfl) (fun c H1 _ _ => et_test (ev_inS (neg := true) (evd_var (.str _)) (evd_str (x := figuresS)))) fun c H1 _ _ _ => evd_var (.str _)) okl)) fig_all) (Ex.refl _) (fun hb H4 e4 => ?_) fun hb H4 e4 => ?_
    · obtain ⟨n1, n2⟩ := num_text hb
      refine (kk.go (eH3.trans e4)).ret (x3.trans e4) (evd_tup (eds_cons (evd_intS (evd_var (.str w)) n1 n2) (eds_cons (evd_var (.int _)) eds_nil)) (by simp)) ?_
      unfold LC.pairD leafT
      rw [if_pos hb]
      rfl
    · refine (kk.go (eH3.trans e4)).ret (x3.trans e4) (evd_tup (eds_cons (evd_var (.str w)) (eds_cons (evd_var (.int _)) eds_nil)) (by simp)) ?_
      unfold LC.pairD leafT
      rw [if_neg (by rw [hb]; exact Bool.false_ne_true)]
      rfl
theorem sc_row_of : FnScope ["line", "words", "size", "some", "end"] ["line"] (defScope s_row_of) := ⟨rfl, rfl, rfl, by decide +kernel, rfl, by decide +kernel, by decide +kernel⟩
theorem ok_row_of {f : Addr} {fd : FuncData}  (F : FnP K "row_of" "row_of" s_row_of f fd) (g : mg "row_of" = some (.ref f)) (T : Tx mg) {c_BadText : Addr} (x_BadText : ExcF K mg "BadText" c_BadText) (h_sum_at : Has P w K mg base (L2.CX P w) 9 "sum_at" ["words", "at", "deep"] (spDX K c_BadText (F_sumat 7))) (m_MOST_DEEP : ∃ t, mg "MOST_DEEP" = some (.int 6 t)) : Has P w K mg base (L2.CX P w) 10 "row_of" ["line"] (spDX K c_BadText F_rowof) := by
  have nd := (sc_row_of).nd
  refine has_x F g (F.bindsN fun _ _ _ _ _ _ us hl => match us, hl with | [_], _ => rfl) sc_row_of (by rintro _ _ _ _ ⟨_, _, _, _, hd, ⟨_, rfl, _⟩, _⟩; exact dpAll_len hd) (fun cdv A outer s H vs Q E hr h => ?_)
  obtain ⟨_, o, H0, x, hd, ⟨t, rfl, hok, rfl⟩, k1, k2⟩ := h
  obtain ⟨v0, rfl, d0⟩ := dts1 hd
  refine ⟨_, (pss_cons (ps_set (i := 1) nd rfl (Or.inl rfl) (pe_split (pv 0) pe_str))
      (pss_cons (ps_set (i := 2) nd rfl (Or.inl rfl) (pe_op (kAdd (K := K) rfl) pe_int (pe_callTy call_int1 rfl (T.free (by decide)) boot_int (pa_cons (pe_cmpR (kEq (K := K) rfl hr.units) (pe_ix (kIx (K := K) rfl) (pv 1) pe_int (fun _ _ => rfl)) pe_str (nomark _)) pa_nil))))
      (pss_cons (ps_asg (pe_has h_sum_at hr (by omega) rfl (passes_call (takes_of rfl rfl rfl rfl) fun _ _ _ _ h => h) (pa_cons (pv 1) (pa_cons (pv 2) (pa_cons (pe_gint m_MOST_DEEP) pa_nil)))) (pg_tup rfl (pgs_cons (pg_name (i := 3) nd rfl (Or.inl rfl)) (pgs_cons (pg_name (i := 4) nd rfl (Or.inl rfl)) pgs_nil))))
      (pss_cons (ps_if (pt_cmpR (kNe (K := K) rfl hr.units) (pv 4) (pe_callB (kLen (K := K) rfl) rfl (T.free (by decide)) boot_len (pa_cons (pv 1) pa_nil)) (nomark _)) (pss_one (ps_raise rfl (takes_of rfl rfl rfl rfl) (pmk_own PySem.F.excBase_ValueError x_BadText.q x_BadText.g x_BadText.k (raises_own x_BadText.b x_BadText.t) rfl))) pss_nil)
      (pss_one (ps_ret (pe_op (kAdd (K := K) rfl) (pe_callTy (kTup (K := K) rfl) rfl (T.free (by decide)) boot_tuple (pa_cons (pe_slice (kSl (K := K) rfl) (pv 1) po_none (po_some (pv 2))) pa_nil)) (pe_tup (pa_cons (pv 3) pa_nil))))))))), ?_⟩
  have tl6 := hok.1
  obtain ⟨ws, hws⟩ : ∃ ws, ws = Txt.split t " " := ⟨_, rfl⟩
  have hc := split_count sep_sp t
  have hwo : ∀ w ∈ ws, okT w := fun w hw => okT_split sep_sp hok (hws ▸ hw)
  have k1 : ∀ d, rowW ws = some d → Rt K H0 H d Q := fun d e => k1 d (by unfold rowT; rw [← hws]; exact e)
  have k2 : rowW ws = none → ∀ H2, Ex H H2 → E (.ref c_BadText) none H2 := fun e => k2 (by unfold rowT; rw [← hws]; exact e)
  rw [← hws] at hc
  refine s_asgD (K := K) (i := 1) (d := .list (ws.map PyData.str)) (evd_is (evd_split (evd_var d0) (by decide +kernel) (by omega)) (by rw [hws])) x fun v1 H1 B1 g1 d1 => ?_
  dsimp only
  obtain ⟨w0, hw0⟩ : ∃ w0, ws[0]? = some w0 := ⟨_, List.getElem?_eq_getElem (by omega)⟩
  have sh0 := shapedS (okT_ok (hwo w0 (List.mem_of_getElem? hw0)))
  have hz : sizeT ws = 1 + if w0 = "set" then 1 else 0 := by
    unfold sizeT
    rw [hw0]
    by_cases q : w0 = "set"
    · rw [if_pos q, if_pos (by rw [q])]
    · rw [if_neg q, if_neg (fun z => q (Option.some.inj z))]
  have hz2 : sizeT ws ≤ 2 := by rw [hz]; split <;> omega
  refine s_asgD (K := K) (H0 := B1) (i := 2) (d := .int (sizeT ws : Int)) (evd_is (ev_addI (K := K) evd_int (evd_i (ev_intB (ev_is (ev_eq (evd_ixL (evd_var d1) evd_int (atI_strs (p := 0) hw0)) evd_str sh0 (by decide +kernel)) (by rw [eqv_strT]))))) (congrArg PyData.int (by rw [hz]; by_cases q : w0 = "set" <;> simp [q]))) g1.d2 fun v2 H2 B2 g2 d2 => ?_
  dsimp only
  have g12 := g1.seq g2
  have D1 := dp_ex g2.xd _ _ d1
  refine s_asgX (K := K) (H0 := B2) (ds := [.list (ws.map PyData.str), .int (sizeT ws : Int), .int (((7 : Nat) : Int) - 1)]) (eds_cons (evd_var D1) (eds_cons (evd_var d2) (eds_cons evd_int eds_nil))) g12.d2 ⟨ws, sizeT ws, rfl, hwo, by decide, rfl⟩ (fun d e v H3 B3 g3 hv => ?_) fun e H3 e3 => ?_
  rotate_left
  · refine k2 ?_ H3 (g12.ex.trans e3)
    have er : sumAt ws 7 (sizeT ws) = none := by
      cases er : sumAt ws 7 (sizeT ws) with
      | none => rfl
      | some r => rw [er] at e; cases e
    unfold rowW
    rw [er]
    rfl
  cases er : sumAt ws 7 (sizeT ws) with
  | none => rw [er] at e; cases e
  | some r =>
    rw [er] at e
    cases e
    refine g_pairT (i := 3) (j := 4) hv g3.d2 fun x3 x4 h3 h4 => ?_
    obtain rfl := dp_int h4
    dsimp only
    have g13 := g12.seq g3
    have hsz : sizeT ws < ws.length := by
      by_cases z : sizeT ws < ws.length
      · exact z
      · rw [sumAt_none (.inl (by omega))] at er
        cases er
    have D1' := dp_ex g3.xd _ _ D1
    have D2' := dp_ex g3.xd _ _ d2
    refine s_ifD (H0 := B3) (b := !decide (r.2 = ws.length)) (et_is (et_test (ev_ne (evd_var (.int _)) (evd_i (ev_lenL (evd_var D1'))) rfl rfl)) (by rw [List.length_map, eqv_intT]; exact congrArg (!·) (decide_eq_decide.mpr (by omega)))) g13.d2 (fun hb H4 e4 => ?_) fun hb H4 e4 => ?_
    · refine k2 ?_ H4 (g13.ex.trans e4)
      unfold rowW
      rw [er]
      have : ¬ r.2 = ws.length := by simpa using hb
      show (if r.2 = ws.length then _ else _) = _
      rw [if_neg this]
    · have hb : r.2 = ws.length := by simpa using hb
      refine (((k1 (.tuple ((ws.take (sizeT ws)).map PyData.str ++ [r.1])) ?_).seq g13).go e4).ret (g13.d2.trans e4) (evd_is (evd_addT (evd_tupL (evd_is (evd_slL (evd_var D1') eo_none (eo_i (K := K) (evd_var D2'))) (congrArg PyData.list (cut_take _ _ (by rw [List.length_map]; omega))))) (evd_tup (eds_cons (evd_var h3) eds_nil) (by simp)) ?_) ?_) rfl
      · unfold rowW
        rw [er]
        show (if r.2 = ws.length then _ else _) = _
        rw [if_pos hb]
      · rw [List.length_take]
        show min _ _ + 1 ≤ _
        omega
      · rw [List.map_take]
theorem sc_read : FnScope ["text", "found", "line"] ["text"] (defScope s_read) := ⟨rfl, rfl, rfl, by decide +kernel, rfl, by decide +kernel, by decide +kernel⟩
theorem ok_read {f : Addr} {fd : FuncData}  (F : FnP K "read" "read" s_read f fd) (g : mg "read" = some (.ref f)) (T : Tx mg) {c_BadText : Addr} (h_text_of : Has P w K mg base CX0 9 "text_of" ["source"] (spD K F_textof)) (h_is_source : Has P w K mg base CX0 10 "is_source" ["thing"] (spD K F_is_source)) (x_BadText : ExcF K mg "BadText" c_BadText) (h_row_of : Has P w K mg base (L2.CX P w) 10 "row_of" ["line"] (spDX K c_BadText F_rowof)) : Has P w K mg base (L2.CX P w) 12 "read" ["text"] (spDX K c_BadText F_read) := by
  have nd := (sc_read).nd
  refine has_x F g (F.bindsN fun _ _ _ _ _ _ us hl => match us, hl with | [_], _ => rfl) sc_read (by rintro _ _ _ _ ⟨_, _, _, _, hd, ⟨_, rfl, _⟩ | ⟨_, rfl, _⟩, _⟩ <;> exact dpAll_len hd) (fun cdv A outer s H vs Q E hr h => ?_)
  obtain ⟨_, o, H0, x, hd, hf, k1, k2⟩ := h
  refine ⟨_, (pss_cons (ps_if (pt_not (kTruth (K := K) rfl (pe_callB (kIsi (K := K) rfl) rfl (T.free (by decide)) boot_isinstance (pa_cons (pv 0) (pa_cons (pe_bltn (v := .ty "str") rfl (T.free (by decide)) boot_str rfl) pa_nil))))) (pss_one (ps_raise rfl (takes_of rfl rfl rfl rfl) (pmk_own PySem.F.excBase_ValueError x_BadText.q x_BadText.g x_BadText.k (raises_own x_BadText.b x_BadText.t) rfl))) pss_nil)
      (pss_cons (ps_set (i := 1) nd rfl (Or.inl rfl) (pe_tup pa_nil))
      (pss_cons (ps_if (pt_cmpR (kNe (K := K) rfl hr.units) (pv 0) pe_str (nomark _)) (pss_one (ps_set (i := 1) nd rfl (Or.inl rfl) (pe_callTy (kTup (K := K) rfl) rfl (T.free (by decide)) boot_tuple (pa_cons (pe_lcX (own := [("line", 2)]) rfl nd rfl rfl (takes_of rfl rfl rfl rfl) (kSeq (K := K) rfl (pe_split (pv 0) pe_str)) (blkOk_by (N := ["text", "found", "line"]) (sc := defScope s_read) (own := [("line", 2)]) (by decide +kernel)) (fun _ _ _ _ _ => (pg_name (i := 2) nd rfl (Or.inl rfl))) (fun _ _ _ _ _ => pts_nil) (fun _ _ _ _ _ xe ps => (pe_has h_row_of hr (by omega) rfl ps (pa_cons (pv 2) pa_nil)))) pa_nil)))) pss_nil)
      (pss_cons (ps_if (PW.pt (pw_or (pt_not (kTruth (K := K) rfl (pe_has h_is_source hr (by omega) rfl pass0 (pa_cons (pv 1) pa_nil)))) (pw_or1 (pt_cmpR (kNe (K := K) rfl hr.units) (pe_has h_text_of hr (by omega) rfl pass0 (pa_cons (pv 1) pa_nil)) (pv 0) (nomark _))))) (pss_one (ps_raise rfl (takes_of rfl rfl rfl rfl) (pmk_own PySem.F.excBase_ValueError x_BadText.q x_BadText.g x_BadText.k (raises_own x_BadText.b x_BadText.t) rfl))) pss_nil)
      (pss_one (ps_ret (pv 1))))))), ?_⟩
  rcases hf with ⟨d, rfl, hT, rfl⟩ | ⟨t, rfl, hok, hf⟩
  · obtain ⟨v0, rfl, d0⟩ := dts1 hd
    refine s_yes (et_not (a := false) (et_is (et_b (ev_isi (evd_var d0) (by decide))) hT)) x fun H1 e1 => ?_
    exact k2 rfl H1 e1
  obtain ⟨v0, rfl, d0⟩ := dts1 hd
  have tl6 := hok.1
  have sht := shapedS (okT_ok hok)
  refine s_skip (et_not (a := true) (et_is (et_b (ev_isi (evd_var d0) (by decide))) rfl)) x fun H1 e1 => ?_
  dsimp only
  have x1 := x.trans e1
  refine s_asgD (K := K) (i := 1) (d := .tuple []) (evd_tup eds_nil (by simp)) x1 fun v1 H2 B2 g2 d2 => ?_
  dsimp only
  have g2 := g2.after e1
  have D0 := dp_ex g2.xd _ _ d0
  refine s_seqT (fun σ' H' => ∃ rs v1 B o2, σ' = [some v0, some v1, o2] ∧ rowsT t = some rs ∧ Gr H0 H H' B ∧ Dt K B v1 (.tuple rs)) ?fin fun fin => ?_
  case fin =>
    rintro _ H3 ⟨rs, v1, B3, o2, rfl, hrs, g3, d3⟩
    have okr := rows_ok hok hrs
    have D0 := dp_ex g3.xd _ _ d0
    rcases hf with ⟨h1, h2⟩ | ⟨rs', h1, h2⟩
    · rw [hrs] at h1
      cases h1
    rw [hrs] at h1
    cases h1
    rcases h2 with ⟨hS, ho⟩ | ⟨src, he, hg, ho⟩
    · refine s_yes (H0 := B3) (et_or (a := true) (b := true) (et_not (a := false) (et_b (ev_bl (evd_is (evd_call (eds_cons (evd_var d3) eds_nil) ⟨_, rfl, okr, rfl⟩) (congrArg PyData.bool hS))))) fun z => nomatch z) g3.d2 fun H4 e4 => ?_
      exact k2 ho H4 (g3.ex.trans e4)
    · have hS : isSource (.tuple rs) = true := by rw [he]; exact isSource_enc src hg
      have d3' : Dt K B3 v1 (encS src) := he ▸ d3
      obtain ⟨l1, l2⟩ := text_low hg
      have shx := shapedS (okT_ok (t := textS src) ⟨by omega, fun c hc => by have := l2 c hc; omega⟩)
      refine s_ifD (H0 := B3) (b := !decide (textS src = t)) (et_or (a := false) (et_not (a := true) (et_b (ev_bl (evd_is (evd_call (eds_cons (evd_var d3) eds_nil) ⟨_, rfl, okr, rfl⟩) (congrArg PyData.bool hS))))) fun _ => et_is (et_test (ev_ne (evd_call (eds_cons (evd_var d3') eds_nil) ⟨src, rfl, hg, rfl⟩) (evd_var D0) shx sht)) (by rw [eqv_strT]; cases decide (textS src = t) <;> rfl)) g3.d2 (fun hb H4 e4 => ?_) fun hb H4 e4 => ?_
      · have hb : ¬ textS src = t := by simpa using hb
        rw [if_neg hb] at ho
        exact k2 ho H4 (g3.ex.trans e4)
      · have hb : textS src = t := by simpa using hb
        rw [if_pos hb] at ho
        exact (((k1 _ ho).seq g3).go e4).ret (g3.d2.trans e4) (evd_var d3') rfl
  by_cases ht : t = ""
  · refine s_skip (H0 := B2) (et_is (et_test (ev_ne (evd_var D0) evd_str sht (by decide +kernel))) (by rw [eqv_strT, decide_eq_true ht]; rfl)) g2.d2 fun H3 e3 => ?_
    exact fin _ _ ⟨[], v1, B2, none, rfl, by unfold rowsT; rw [if_pos ht], g2.more e3, d2⟩
  · refine s_yes (H0 := B2) (et_is (et_test (ev_ne (evd_var D0) evd_str sht (by decide +kernel))) (by rw [eqv_strT, decide_eq_false ht]; rfl)) g2.d2 fun H3 e3 => ?_
    have hc := split_count sep_nl t
    have hrt : rowsT t = allT rowD ((Txt.split t "\n").map PyData.str) := by
      unfold rowsT
      rw [if_neg ht, rows_data]
    refine s_asgTup ?_
    refine t_lcX (K := K) (f := rowD) (evd_split (K := K) (H := B2) (evd_var D0) (by decide +kernel) (by omega)) (g2.d2.trans e3) (by rw [List.length_map]; omega) (fun _ => rfl) (fun _ => rfl) (fun d hd => ?_) (fun r hr v H4 B4 g4 hv => ?_) fun hn H4 e4 => ?_
    · obtain ⟨l, hl, rfl⟩ := List.mem_map.mp hd
      exact ⟨l, rfl, okT_split sep_nl hok hl, rfl⟩
    · obtain ⟨a, ys, rfl, hs, hall⟩ := dp_lst hv
      refine ⟨a, ys, rfl, .inl ⟨sq_of (g4.d2 _ _ hs), fun l hl => ?_⟩⟩
      have g5 := g2.seq ((Gr.new (.tup ys) g4 hl).after e3)
      exact fin _ _ ⟨r, _, _, none, rfl, by rw [hrt]; exact hr, g5, .tup (st_of upd_same) (dpAll_ex (Ex.new (fresh_back g4.d2 hl)) _ _ hall)⟩
    · have hno : o = none := by
        rcases hf with ⟨h1, h2⟩ | ⟨rs', h1, h2⟩
        · exact h2
        · rw [hrt, hn] at h1
          cases h1
      exact k2 hno H4 ((g2.ex.trans e3).trans e4)
theorem sc_law_cell : FnScope ["script", "k"] ["script", "k"] (defScope s_law_cell) := ⟨rfl, rfl, rfl, by decide +kernel, rfl, by decide +kernel, by decide +kernel⟩
theorem ok_law_cell {f : Addr} {fd : FuncData}  (F : FnP K "_law_cell" "_law_cell" s_law_cell f fd) (g : mg "_law_cell" = some (.ref f)) (T : Tx mg)  : Has P w K mg base CX0 1 "_law_cell" ["script", "k"] (spLcell K) := by
  have nd := (sc_law_cell).nd
  refine has_p F g (F.bindsN fun _ _ _ _ _ _ us hl => match us, hl with | [_, _], _ => rfl) sc_law_cell (by rintro _ _ _ _ ⟨_, _, _, rfl, _⟩; rfl) (fun cdv A outer s H vs Q E hr h => ?_)
  obtain ⟨a, ns, i, rfl, hS, hi, hl, k⟩ := h
  refine ⟨_, (pss_cons (ps_if (pt_cmpR op_lt (pv 1) (pe_callB (kLen (K := K) rfl) rfl (T.free (by decide)) boot_len (pa_cons (pv 0) pa_nil)) (nomark _)) (pss_one (ps_ret (pe_ix (kIx (K := K) rfl) (pv 0) (pv 1) (fun _ _ => rfl)))) pss_nil)
      (pss_one (ps_ret pe_int))), ?_⟩
  refine s_ifD (H0 := H) (b := decide (i < (ns.length : Int))) (et_test (ev_is (ev_op (ev_var rfl) (fun H1 e Q q => ⟨_, rfl, _, ns.length, rfl, .inl ⟨_, ex_l e hS, by rw [List.length_map]⟩, q H1 (Ex.refl H1)⟩) rv_I0) rfl)) (Ex.refl H) (fun hb H1 e1 => ?_) fun hb H1 e1 => ?_
  · have hb := of_decide_eq_true hb
    refine ⟨_, rfl, _, rfl, .inl ⟨a, _, i, .int (cellAt ns i), rfl, rfl, ex_l e1 hS, ?_, k H1 e1⟩⟩
    unfold cellAt
    rw [getD_atI _ _ (.int 0) hi (by rw [List.length_map]; exact hb), List.getD_eq_getElem?_getD, List.getD_eq_getElem?_getD, List.getElem?_map]
    cases ns[i.toNat]? <;> rfl
  · have hb := of_decide_eq_false hb
    have e0 : cellAt ns i = 0 := by
      unfold cellAt
      rw [List.getD_eq_getElem?_getD, List.getElem?_eq_none (by omega)]
      rfl
    rw [e0] at k
    exact k H1 e1
theorem sc_law_mix : FnScope ["cell", "prime", "many"] ["cell", "prime", "many"] (defScope s_law_mix) := ⟨rfl, rfl, rfl, by decide +kernel, rfl, by decide +kernel, by decide +kernel⟩
theorem ok_law_mix {f : Addr} {fd : FuncData} (F : FnP K "_law_mix" "_law_mix" s_law_mix f fd) (g : mg "_law_mix" = some (.ref f)) (T : Tx mg)  : Has P w K mg base CX0 1 "_law_mix" ["cell", "prime", "many"] (spD K F_mix) := by
  have nd := (sc_law_mix).nd
  refine has_d (FF := F_mix) F g (F.bindsN fun _ _ _ _ _ _ us hl => match us, hl with | [_, _, _], _ => rfl) sc_law_mix (by rintro _ _ ⟨_, _, _, rfl, _⟩; rfl) (fun cdv A outer s H vs Q E ds d H0 hr x hd hf k => ?_)
  obtain ⟨a, b, m, rfl, hb0, hb1, hm0, rfl⟩ := hf
  obtain ⟨v0, v1, v2, rfl, d0, d1, d2⟩ := dts3 hd
  refine ⟨_, (pss_one (ps_ret (pe_op op_mod (pe_op op_mod (pe_op op_pow (pe_op op_mod (pe_op (kMul (K := K) rfl) (pv 0) pe_int) (pv 1)) pe_int) (pv 1)) (pv 2)))), ?_⟩
  have m0 : (a * 48271 % b).natAbs < 2 ^ 64 := by
    have h := mod_lt10 (a * 48271) b hb0
    omega
  exact s_retD (evd_i (ev_I (K := K) (C := fun _ j => 0 < j) (g := fun i j => .int (i % j)) (evd_i (ev_I (K := K) (C := fun _ j => 0 < j) (g := fun i j => .int (i % j)) (evd_i (ev_I (K := K) (C := CPow) (g := fun i j => .int (i ^ j.toNat)) (evd_i (ev_I (K := K) (C := fun _ j => 0 < j) (g := fun i j => .int (i % j))
    (evd_mulI (evd_var d0) evd_int (.inr (by decide))) (evd_var d1) hb0)) evd_int ⟨by decide, by decide, m0⟩)) (evd_var d1) hb0)) (evd_var d2) hm0)) x k
theorem sc_law_seed : FnScope ["seed", "k"] ["seed", "k"] (defScope s_law_seed) := ⟨rfl, rfl, rfl, by decide +kernel, rfl, by decide +kernel, by decide +kernel⟩
theorem ok_law_seed {f : Addr} {fd : FuncData} (F : FnP K "_law_seed" "_law_seed" s_law_seed f fd) (g : mg "_law_seed" = some (.ref f)) (T : Tx mg)  : Has P w K mg base CX0 1 "_law_seed" ["seed", "k"] (spD K F_seed) := by
  have nd := (sc_law_seed).nd
  refine has_d (FF := F_seed) F g (F.bindsN fun _ _ _ _ _ _ us hl => match us, hl with | [_, _], _ => rfl) sc_law_seed (by rintro _ _ ⟨_, _, rfl, _⟩; rfl) (fun cdv A outer s H vs Q E ds d H0 hr x hd hf k => ?_)
  obtain ⟨a, b, rfl, rfl⟩ := hf
  obtain ⟨v0, v1, rfl, d0, d1⟩ := dts2 hd
  refine ⟨_, (pss_one (ps_ret (pe_op op_mod (pe_op op_pow (pe_op op_mod (pe_op (kAdd (K := K) rfl) (pe_op (kAdd (K := K) rfl) (pe_op (kMul (K := K) rfl) (pv 0) pe_int) (pe_op (kMul (K := K) rfl) pe_int (pv 1))) pe_int) pe_int) pe_int) pe_int))), ?_⟩
  have m0 : ((a * 1103515245 + 7919 * b + 12345) % 2147483647).natAbs < 2 ^ 64 := by
    have h := mod_lt10 (a * 1103515245 + 7919 * b + 12345) 2147483647 (by omega)
    omega
  exact s_retD (evd_i (ev_I (K := K) (C := fun _ j => 0 < j) (g := fun i j => .int (i % j)) (evd_i (ev_I (K := K) (C := CPow) (g := fun i j => .int (i ^ j.toNat)) (evd_i (ev_I (K := K) (C := fun _ j => 0 < j) (g := fun i j => .int (i % j))
    (ev_addI (ev_addI (evd_mulI (evd_var d0) evd_int (.inr (by decide))) (evd_mulI evd_int (evd_var d1) (.inl (by decide)))) evd_int) evd_int (by decide))) evd_int ⟨by decide, by decide, m0⟩)) evd_int (by decide))) x k
theorem sc_law_pick : FnScope ["seed", "many"] ["seed", "many"] (defScope s_law_pick) := ⟨rfl, rfl, rfl, by decide +kernel, rfl, by decide +kernel, by decide +kernel⟩
theorem ok_law_pick {f : Addr} {fd : FuncData} (F : FnP K "_law_pick" "_law_pick" s_law_pick f fd) (g : mg "_law_pick" = some (.ref f)) (T : Tx mg)  : Has P w K mg base CX0 1 "_law_pick" ["seed", "many"] (spD K F_pick) := by
  have nd := (sc_law_pick).nd
  refine has_d (FF := F_pick) F g (F.bindsN fun _ _ _ _ _ _ us hl => match us, hl with | [_, _], _ => rfl) sc_law_pick (by rintro _ _ ⟨_, _, rfl, _⟩; rfl) (fun cdv A outer s H vs Q E ds d H0 hr x hd hf k => ?_)
  obtain ⟨a, b, rfl, hb, rfl⟩ := hf
  obtain ⟨v0, v1, rfl, d0, d1⟩ := dts2 hd
  refine ⟨_, (pss_one (ps_ret (pe_op op_mod (pe_op op_fdiv (pv 0) pe_int) (pv 1)))), ?_⟩
  exact s_retD (evd_i (ev_I (C := fun _ j => 0 < j) (g := fun i j => .int (i % j)) (evd_i (K := K) (ev_I (C := CDiv) (g := fun i j => .int (i / j)) (evd_var d0) (evd_int (i := 97)) ⟨by decide, by decide⟩)) (evd_var d1) hb)) x k
theorem sc_law_sum : FnScope ["seed", "deep", "some", "parts", "k", "word"] ["seed", "deep"] (defScope s_law_sum) := ⟨rfl, rfl, rfl, by decide +kernel, rfl, by decide +kernel, by decide +kernel⟩
theorem step_law_sum {f : Addr} {fd : FuncData} (F : FnP K "_law_sum" "_law_sum" s_law_sum f fd) (g : mg "_law_sum" = some (.ref f)) (T : Tx mg) (n : Nat) (h__law_sum : Has P w K mg base CX0 (n + 1) "_law_sum" ["seed", "deep"] (spD K (Fprev F_lsum n))) (h__law_seed : Has P w K mg base CX0 1 "_law_seed" ["seed", "k"] (spD K F_seed)) (h__law_pick : Has P w K mg base CX0 1 "_law_pick" ["seed", "many"] (spD K F_pick)) : HasF P w K mg base CX0 (n + 2) "_law_sum" ["seed", "deep"] (spD K (F_lsum n)) f fd := by
  have nd := (sc_law_sum).nd
  refine hasF_d (FF := F_lsum n) F g (F.bindsN fun _ _ _ _ _ _ us hl => match us, hl with | [_, _], _ => rfl) sc_law_sum (by rintro _ _ ⟨_, rfl, _⟩; rfl) (fun cdv A outer s H vs Q E ds d H0 hr x hd hf k => ?_)
  obtain ⟨a, rfl, rfl⟩ := hf
  obtain ⟨v0, v1, rfl, d0, d1⟩ := dts2 hd
  refine ⟨_, (pss_cons (ps_if (PW.pt (pw_or (pt_cmpR op_lt (pv 1) pe_int (nomark _)) (pw_or1 (pt_cmpR (kEq (K := K) rfl hr.units) (pe_has h__law_pick hr (by omega) rfl pass0 (pa_cons (pv 0) (pa_cons pe_int pa_nil))) pe_int (nomark _))))) (pss_cons (ps_set (i := 2) nd rfl (Or.inl rfl) (pe_lst (pa_cons (pe_op op_mod (pe_op op_fdiv (pv 0) pe_int) pe_int) (pa_cons (pe_op op_mod (pe_op op_fdiv (pv 0) pe_int) pe_int) (pa_cons (pe_op op_mod (pe_op op_fdiv (pv 0) pe_int) pe_int) (pa_cons pe_int pa_nil))))))
      (pss_one (ps_ret (pe_ix (kIx (K := K) rfl) (pe_op (kAdd (K := K) rfl) (pv 2) (pe_lst (pa_cons pe_str (pa_cons pe_str (pa_cons pe_str (pa_cons pe_str (pa_cons pe_str (pa_cons pe_str pa_nil)))))))) (pe_op op_mod (pe_op op_fdiv (pv 0) pe_int) pe_int) (fun _ _ => rfl))))) pss_nil)
      (pss_cons (ps_setLc (i := 3) (own := [("k", 4)]) rfl nd rfl rfl (sw_true rfl rfl rfl (by decide +kernel)) (pi_range1 rfl (T.free (by decide)) (pa_cons pe_int pa_nil)) (blkOk_by (N := ["seed", "deep", "some", "parts", "k", "word"]) (sc := defScope s_law_sum) (own := [("k", 4)]) (by decide +kernel)) (fun _ _ _ _ _ => (pg_name (i := 4) nd rfl (Or.inl rfl))) (fun _ _ _ _ _ => pts_nil) (fun _ _ _ _ _ => (pe_has h__law_sum hr (by omega) rfl pass0 (pa_cons (pe_has h__law_seed hr (by omega) rfl pass0 (pa_cons (pv 0) (pa_cons (pv 4) pa_nil))) (pa_cons (pe_op op_sub (pv 1) pe_int) pa_nil)))))
      (pss_cons (ps_set (i := 5) nd rfl (Or.inl rfl) (pe_ix (kIx (K := K) rfl) (pe_lst (pa_cons pe_str (pa_cons pe_str (pa_cons pe_str (pa_cons pe_str (pa_cons pe_str (pa_cons pe_str (pa_cons pe_str pa_nil)))))))) (pe_op op_mod (pe_op op_fdiv (pv 0) pe_int) pe_int) (fun _ _ => rfl)))
      (pss_one (ps_ret (pe_ifExp (pt_cmpR (kEq (K := K) rfl hr.units) (pv 5) pe_str (nomark _)) (pe_tup (pa_cons pe_str (pa_cons (pe_ix (kIx (K := K) rfl) (pv 3) pe_int (fun _ _ => rfl)) (pa_cons (pe_ix (kIx (K := K) rfl) (pv 3) pe_int (fun _ _ => rfl)) (pa_cons (pe_ix (kIx (K := K) rfl) (pv 3) pe_int (fun _ _ => rfl)) pa_nil))))) (pe_tup (pa_cons (pv 5) (pa_cons (pe_ix (kIx (K := K) rfl) (pv 3) pe_int (fun _ _ => rfl)) (pa_cons (pe_ix (kIx (K := K) rfl) (pv 3) pe_int (fun _ _ => rfl)) pa_nil)))))))))), ?_⟩
  have k : Rt K H0 H (lawSum n a).enc Q := k
  have hp : EvT (tTest (tOp (rEqD K) (tCall (spD K F_pick) [] E0 (tCons (tVar 0) (tCons (tC (.int 3)) tNil))) (tC (.int 0)))) (start ["seed", "deep", "some", "parts", "k", "word"] [v0, v1]) H0 (decide (a / 97 % 3 = 0)) := et_is (et_test (ev_eq (evd_call (eds_cons (evd_var d0) (eds_cons evd_int eds_nil)) ⟨a, 3, rfl, by decide, rfl⟩) evd_int rfl rfl)) (by show ((a / 97 % 3) == (0 : Int)) = _; rfl)
  refine s_ifD (b := decide (n = 0) || decide (a / 97 % 3 = 0)) (et_or (et_is (et_test (ev_I0 (K := K) (evd_var d1) evd_int)) (by rw [Bool.eq_iff_iff]; simp; omega)) fun _ => hp) x (fun hb H1 e1 => ?_) fun hb H1 e1 => ?_
  · have el : lawSum n a = lawLeaf a := by
      cases n with
      | zero => rfl
      | succ n =>
        have : a / 97 % 3 = 0 := by simpa using hb
        show (if a / 97 % 3 = 0 then lawLeaf a else _) = lawLeaf a
        rw [if_pos this]
    rw [el] at k
    have k1 := k.go e1
    refine s_asgD (K := K) (d := .list [.int (a / 7 % 10), .int (a / 7 % 4), .int (a / 7 % 10000), .int 0]) (evd_lst (eds_cons (evd_i (ev_I (K := K) (C := fun _ j => 0 < j) (g := fun i j => .int (i % j)) (evd_i (ev_I (K := K) (C := CDiv) (g := fun i j => .int (i / j)) (evd_var d0) evd_int ⟨by decide, by decide⟩)) evd_int (by decide)))
      (eds_cons (evd_i (ev_I (K := K) (C := fun _ j => 0 < j) (g := fun i j => .int (i % j)) (evd_i (ev_I (K := K) (C := CDiv) (g := fun i j => .int (i / j)) (evd_var d0) evd_int ⟨by decide, by decide⟩)) evd_int (by decide)))
      (eds_cons (evd_i (ev_I (K := K) (C := fun _ j => 0 < j) (g := fun i j => .int (i % j)) (evd_i (ev_I (K := K) (C := CDiv) (g := fun i j => .int (i / j)) (evd_var d0) evd_int ⟨by decide, by decide⟩)) evd_int (by decide))) (eds_cons evd_int eds_nil)))) (by simp)) (x.trans e1) fun v H2 Hd g hv => ?_
    have h5 := mod_lt10 (a / 5) 10 (by omega)
    refine (k1.seq g).ret g.d2 (evd_ixL (ds := (leafs a).map Sm.enc) (evd_addL (evd_var hv) (evd_lst (eds_cons evd_str (eds_cons evd_str (eds_cons evd_str (eds_cons evd_str (eds_cons evd_str (eds_cons evd_str eds_nil)))))) (by simp)) (by simp))
      (evd_i (ev_I (K := K) (C := fun _ j => 0 < j) (g := fun i j => .int (i % j)) (evd_i (ev_I (K := K) (C := CDiv) (g := fun i j => .int (i / j)) (evd_var (dp_ex g.xd _ _ d0)) evd_int ⟨by decide, by decide⟩)) evd_int (by decide))) (getD_atI _ _ (.int 0) h5.1 (by show _ < ((10 : Nat) : Int); omega))) ?_
    unfold lawLeaf
    rw [List.getD_eq_getElem?_getD, List.getD_eq_getElem?_getD, List.getElem?_map]
    cases (leafs a)[(a / 5 % 10).toNat]? <;> rfl
  · rw [Bool.or_eq_false_iff] at hb
    obtain ⟨m, rfl⟩ : ∃ m, n = m + 1 := ⟨n - 1, by have := of_decide_eq_false hb.1; omega⟩
    have hn : ¬ a / 97 % 3 = 0 := of_decide_eq_false hb.2
    have k1 := k.go e1
    refine s_asgD (K := K) (d := .list [(lawSum m (seedF a 0)).enc, (lawSum m (seedF a 1)).enc, (lawSum m (seedF a 2)).enc]) (evd_is (evd_lcR (n := 3) (fun k => (lawSum m (seedF a (k : Int))).enc) (eds_cons evd_int eds_nil) (by decide) (fun _ => rfl) fun i A e hi => evd_call (eds_cons (evd_call (eds_cons (evd_var (dp_ex e _ _ d0)) (eds_cons (evd_var (.int _)) eds_nil)) ⟨a, (i : Int), rfl, rfl⟩) (eds_cons (evd_i (ev_is (ev_I0 (K := K) (evd_var (dp_ex e _ _ d1)) evd_int) ?_)) eds_nil)) ⟨seedF a (i : Int), rfl, rfl⟩) rfl) (x.trans e1) fun v H2 Hd g hv => ?_
    · show V.int (((m + 1 : Nat) : Int) - 1) = V.int (m : Int)
      congr 1
      omega
    have k2 := k1.seq g
    have h7 := mod_lt10 (a / 11) 7 (by omega)
    refine s_asgD (K := K) (d := .str (lawWord a)) (evd_is (evd_ixL (ds := lawWords.map PyData.str) (evd_lst (eds_cons evd_str (eds_cons evd_str (eds_cons evd_str (eds_cons evd_str (eds_cons evd_str (eds_cons evd_str (eds_cons evd_str eds_nil))))))) (by decide)) (evd_i (ev_I (K := K) (C := fun _ j => 0 < j) (g := fun i j => .int (i % j)) (evd_i (ev_I (K := K) (C := CDiv) (g := fun i j => .int (i / j)) (evd_var (dp_ex g.xd _ _ d0)) evd_int ⟨by decide, by decide⟩)) evd_int (by decide))) (getD_atI _ _ (.str "add") h7.1 (by show _ < ((7 : Nat) : Int); omega))) ?_) g.d2 fun v2 H3 Hd2 g2 hv2 => ?_
    · unfold lawWord
      rw [List.getD_eq_getElem?_getD, List.getD_eq_getElem?_getD, List.getElem?_map]
      cases lawWords[(a / 11 % 7).toNat]? <;> rfl
    have k3 := k2.seq g2
    have hv3 := dp_ex g2.xd _ _ hv
    have eS : lawSum (m + 1) a = if lawWord a = "if" then .ite (lawSum m (seedF a 0)) (lawSum m (seedF a 1)) (lawSum m (seedF a 2)) else .op (lawWord a) (lawSum m (seedF a 0)) (lawSum m (seedF a 1)) := by
      show (if a / 97 % 3 = 0 then _ else _) = _
      rw [if_neg hn]
    rw [eS] at k3
    have okw : SeqAt.shaped (PyData.str (lawWord a)) = true := by
      have q : lawWords.all (fun w => SeqAt.shaped (PyData.str w)) = true := by decide +kernel
      exact List.all_eq_true.mp q _ (word_mem a)
    refine k3.ret g2.d2 (evd_if (b := decide (lawWord a = "if")) (et_is (et_test (ev_eq (evd_var hv2) evd_str okw (by decide +kernel))) (by show (lawWord a == ("if" : Str)) = _; rfl)) (fun hw => ?_) fun hw => ?_) rfl
    · rw [if_pos (of_decide_eq_true hw)]
      exact evd_tup (eds_cons evd_str (eds_cons (evd_ixL (evd_var hv3) evd_int (atI_0 _ _)) (eds_cons (evd_ixL (evd_var hv3) evd_int (atI_1 _ _ _)) (eds_cons (evd_ixL (evd_var hv3) evd_int (atI_2 _ _ _ _)) eds_nil)))) (by simp)
    · rw [if_neg (of_decide_eq_false hw)]
      exact evd_tup (eds_cons (evd_var hv2) (eds_cons (evd_ixL (evd_var hv3) evd_int (atI_0 _ _)) (eds_cons (evd_ixL (evd_var hv3) evd_int (atI_1 _ _ _)) eds_nil))) (by simp)
theorem all_law_sum {f : Addr} {fd : FuncData} (F : FnP K "_law_sum" "_law_sum" s_law_sum f fd) (g : mg "_law_sum" = some (.ref f)) (T : Tx mg)  (h__law_seed : Has P w K mg base CX0 1 "_law_seed" ["seed", "k"] (spD K F_seed)) (h__law_pick : Has P w K mg base CX0 1 "_law_pick" ["seed", "many"] (spD K F_pick)) : ∀ n : Nat, HasF P w K mg base CX0 (n + 2) "_law_sum" ["seed", "deep"] (spD K (F_lsum n)) f fd
  | 0 => step_law_sum F g T 0 (h__law_sum := has_never F g (F.bindsN fun _ _ _ _ _ _ us hl => match us, hl with | [_, _], _ => rfl) _ fun _ _ z => z) (h__law_seed := h__law_seed) (h__law_pick := h__law_pick)
  | n + 1 => step_law_sum F g T (n + 1) (h__law_sum := (all_law_sum F g T (h__law_seed := h__law_seed) (h__law_pick := h__law_pick) n).has) (h__law_seed := h__law_seed) (h__law_pick := h__law_pick)
theorem ok_law_sum {f : Addr} {fd : FuncData} (F : FnP K "_law_sum" "_law_sum" s_law_sum f fd) (g : mg "_law_sum" = some (.ref f)) (T : Tx mg)  (h__law_seed : Has P w K mg base CX0 1 "_law_seed" ["seed", "k"] (spD K F_seed)) (h__law_pick : Has P w K mg base CX0 1 "_law_pick" ["seed", "many"] (spD K F_pick)) : Has P w K mg base CX0 8 "_law_sum" ["seed", "deep"] (spD K (FU F_lsum 6)) :=
  HasF.union (j := 2) 6 fun n => all_law_sum F g T (h__law_seed := h__law_seed) (h__law_pick := h__law_pick) n
theorem sc_law_source : FnScope ["seed", "found", "k", "one", "some"] ["seed"] (defScope s_law_source) := ⟨rfl, rfl, rfl, by decide +kernel, rfl, by decide +kernel, by decide +kernel⟩
theorem ok_law_source {f : Addr} {fd : FuncData} (F : FnP K "_law_source" "_law_source" s_law_source f fd) (g : mg "_law_source" = some (.ref f)) (T : Tx mg) (h__law_pick : Has P w K mg base CX0 1 "_law_pick" ["seed", "many"] (spD K F_pick)) (h__law_sum : Has P w K mg base CX0 8 "_law_sum" ["seed", "deep"] (spD K (FU F_lsum 6))) (h__law_seed : Has P w K mg base CX0 1 "_law_seed" ["seed", "k"] (spD K F_seed)) : Has P w K mg base CX0 9 "_law_source" ["seed"] (spD K F_lsource) := by
  have nd := (sc_law_source).nd
  refine has_d (FF := F_lsource) F g (F.bindsN fun _ _ _ _ _ _ us hl => match us, hl with | [_], _ => rfl) sc_law_source (by rintro _ _ ⟨_, rfl, _⟩; rfl) (fun cdv A outer s H vs Q E ds d H0 hr x hd hf k => ?_)
  obtain ⟨a, rfl, rfl⟩ := hf
  obtain ⟨v0, rfl, d0⟩ := dts1 hd
  refine ⟨_, (pss_cons (ps_set (i := 1) nd rfl (Or.inl rfl) (pe_lst pa_nil))
      (pss_cons (ps_for PassesOwn.never rfl (pi_range1 rfl (T.free (by decide)) (pa_cons (pe_ix (kIx (K := K) rfl) (pe_lst (pa_cons (pe_op op_mod (pe_op op_fdiv (pv 0) pe_int) pe_int) (pa_cons (pe_op (kAdd (K := K) rfl) pe_int (pe_op op_mod (pe_op op_fdiv (pv 0) pe_int) pe_int)) (pa_cons (pe_op op_mod (pe_op op_fdiv (pv 0) pe_int) pe_int) pa_nil)))) (pe_op op_mod (pe_op op_fdiv (pv 0) pe_int) pe_int) (fun _ _ => rfl)) pa_nil)) (pg_name (i := 2) nd rfl (Or.inl rfl)) (pss_cons (ps_set (i := 3) nd rfl (Or.inl rfl) (pe_has h__law_seed hr (by omega) rfl pass0 (pa_cons (pv 0) (pa_cons (pe_op (kAdd (K := K) rfl) pe_int (pv 2)) pa_nil))))
      (pss_cons (ps_set (i := 4) nd rfl (Or.inl rfl) (pe_has h__law_sum hr (by omega) rfl pass0 (pa_cons (pe_has h__law_seed hr (by omega) rfl pass0 (pa_cons (pv 3) (pa_cons pe_int pa_nil))) (pa_cons (pe_ix (kIx (K := K) rfl) (pe_lst (pa_cons (pe_op op_mod (pe_op op_fdiv (pv 3) pe_int) pe_int) (pa_cons pe_int pa_nil))) (pe_callTy call_int1 rfl (T.free (by decide)) boot_int (pa_cons (pe_cmpR (kEq (K := K) rfl hr.units) (pe_op op_mod (pe_op op_fdiv (pv 3) pe_int) pe_int) pe_int (nomark _)) pa_nil)) (fun _ _ => rfl)) pa_nil))))
      (pss_one (ps_if (pt_cmpR op_gt (pe_has h__law_pick hr (by omega) rfl pass0 (pa_cons (pv 3) (pa_cons pe_int pa_nil))) pe_int (nomark _)) (pss_one (ps_expr (pe_bm PySem.F.plainAttrs_list PySem.F.slot_list_append PySem.F.type_list_append mt_append (pv 1) (pa_cons (pe_tup (pa_cons pe_str (pa_cons (pe_ix (kIx (K := K) rfl) (pe_lst (pa_cons pe_str (pa_cons pe_str (pa_cons pe_str (pa_cons pe_str pa_nil))))) (pe_op op_mod (pe_op op_fdiv (pv 3) pe_int) pe_int) (fun _ _ => rfl)) (pa_cons (pv 4) pa_nil)))) pa_nil)))) (pss_one (ps_expr (pe_bm PySem.F.plainAttrs_list PySem.F.slot_list_append PySem.F.type_list_append mt_append (pv 1) (pa_cons (pe_tup (pa_cons pe_str (pa_cons (pv 4) pa_nil))) pa_nil)))))))))
      (pss_one (ps_ret (pe_callTy (kTup (K := K) rfl) rfl (T.free (by decide)) boot_tuple (pa_cons (pv 1) pa_nil)))))), ?_⟩
  have k : Rt K H0 H (encS (lawSource a)) Q := k
  have h3 := mod_lt10 (a / 11) 3 (by omega)
  have m1 := mod_lt10 (a / 7) 4 (by omega)
  have m2 := mod_lt10 (a / 7) 3 (by omega)
  have m3 := mod_lt10 (a / 7) 9 (by omega)
  refine s_new (K := K) (i := 1) eds_nil x fun p H2 hp ac => ?_
  have hp0 : H0 p = none := fresh_back x hp
  have many : ([.int (a / 7 % 4), .int (1 + a / 7 % 3), .int (a / 7 % 9)] : List PyData).getD (a / 11 % 3).toNat (.int 0) = .int (lawMany a : Int) := by
    unfold lawMany
    have hc : (a / 11 % 3).toNat = 0 ∨ (a / 11 % 3).toNat = 1 ∨ (a / 11 % 3).toNat = 2 := by omega
    rcases hc with e | e | e <;> rw [e] <;> simp <;> omega
  refine s_forN (K := K) (H0 := H0) (n := lawMany a) (eds_cons (evd_is (evd_ixL (evd_lst (eds_cons (evd_i (ev_I (K := K) (C := fun _ j => 0 < j) (g := fun i j => .int (i % j)) (evd_i (ev_I (K := K) (C := CDiv) (g := fun i j => .int (i / j)) (evd_var d0) evd_int ⟨by decide, by decide⟩)) evd_int (by decide)))
    (eds_cons (ev_addI evd_int (evd_i (ev_I (K := K) (C := fun _ j => 0 < j) (g := fun i j => .int (i % j)) (evd_i (ev_I (K := K) (C := CDiv) (g := fun i j => .int (i / j)) (evd_var d0) evd_int ⟨by decide, by decide⟩)) evd_int (by decide))))
    (eds_cons (evd_i (ev_I (K := K) (C := fun _ j => 0 < j) (g := fun i j => .int (i % j)) (evd_i (ev_I (K := K) (C := CDiv) (g := fun i j => .int (i / j)) (evd_var d0) evd_int ⟨by decide, by decide⟩)) evd_int (by decide))) eds_nil))) (by simp))
    (evd_i (ev_I (K := K) (C := fun _ j => 0 < j) (g := fun i j => .int (i % j)) (evd_i (ev_I (K := K) (C := CDiv) (g := fun i j => .int (i / j)) (evd_var d0) evd_int ⟨by decide, by decide⟩)) evd_int (by decide))) (getD_atI _ _ (.int 0) h3.1 (by show _ < ((3 : Nat) : Int); omega))) many) eds_nil) ac.base (by have := lawMany_le a; omega)
    (fun i σ' H' => (∃ o1 o2 o3, σ' = [some v0, some (.ref p), o1, o2, o3]) ∧ Acc K H0 H p (((List.range i).map fun k : Nat => lawRow (seedF a (20 + (k : Int)))).map Rw.enc) H') (fun H3 e3 => ⟨⟨none, none, none, rfl⟩, ac.grow e3⟩) ?_ ?_
  · rintro i σ' H' hi ⟨⟨o1, o2, o3, rfl⟩, q⟩
    have hm := lawMany_le a
    have hlen : (((List.range i).map fun k : Nat => lawRow (seedF a (20 + (k : Int)))).map Rw.enc).length < 100000 := by
      rw [List.length_map, List.length_map, List.length_range]
      omega
    have e0 : (((List.range (i + 1)).map fun k : Nat => lawRow (seedF a (20 + (k : Int)))).map Rw.enc) = ((List.range i).map fun k : Nat => lawRow (seedF a (20 + (k : Int)))).map Rw.enc ++ [(lawRow (seedF a (20 + (i : Int)))).enc] := by
      rw [List.range_succ, List.map_append, List.map_append] <;> rfl
    refine s_asgD (K := K) (d := .int (seedF a (20 + (i : Int)))) (evd_call (eds_cons (evd_var d0) (eds_cons (ev_addI evd_int (evd_var (.int _))) eds_nil)) ⟨a, _, rfl, rfl⟩) q.base fun v H3 Hd g hv => ?_
    have ev := dp_int hv
    subst ev
    generalize seedF a (20 + (i : Int)) = one at *
    have md := lawDeep_le one
    have n7 := mod_lt10 (one / 7) 3 (by omega)
    have n9 := mod_lt10 (one / 13) 9 (by omega)
    have deep : ([.int (one / 7 % 3), .int 6] : List PyData).getD (if decide (one / 13 % 9 = 0) = true then (1 : Int) else 0).toNat (.int 0) = .int (lawDeep one : Int) := by
      unfold lawDeep
      by_cases hz : one / 13 % 9 = 0
      · rw [if_pos (decide_eq_true hz), if_pos hz]
        rfl
      · rw [if_neg (by simp [hz]), if_neg hz]
        show PyData.int _ = PyData.int _
        congr 1
        omega
    refine s_asgD (K := K) (H0 := H0) (d := (lawSum (lawDeep one) (seedF one 1)).enc) (evd_call (eds_cons (evd_call (eds_cons (evd_var (.int one)) (eds_cons evd_int eds_nil)) ⟨one, 1, rfl, rfl⟩) (eds_cons (evd_is (evd_ixL (evd_lst (eds_cons (evd_i (ev_I (K := K) (C := fun _ j => 0 < j) (g := fun i j => .int (i % j)) (evd_i (ev_I (K := K) (C := CDiv) (g := fun i j => .int (i / j)) (evd_var (.int one)) evd_int ⟨by decide, by decide⟩)) evd_int (by decide))) (eds_cons evd_int eds_nil)) (by simp))
      (evd_i (ev_intB (b := decide (one / 13 % 9 = 0)) (ev_is (ev_eq (evd_i (ev_I (K := K) (C := fun _ j => 0 < j) (g := fun i j => .int (i % j)) (evd_i (ev_I (K := K) (C := CDiv) (g := fun i j => .int (i / j)) (evd_var (.int one)) evd_int ⟨by decide, by decide⟩)) evd_int (by decide))) evd_int rfl rfl) rfl))) (getD_atI _ _ (.int 0) (by split <;> omega) (by show _ < ((2 : Nat) : Int); split <;> omega))) deep) eds_nil)) ⟨lawDeep one, md, _, rfl, rfl⟩) (q.base.trans g.ex) fun v2 H4 Hd2 g2 hv2 => ?_
    have hpd : Hd2 p = none := g2.fr p hp0 (ne_none g.ex q.own)
    have q4 := (((q.grow g.ex).grow g2.ex).rebase g2.xd g2.d2 hpd)
    have fin : ∀ H5, Acc K Hd2 H p (((List.range i).map fun k : Nat => lawRow (seedF a (20 + (k : Int)))).map Rw.enc ++ [(lawRow one).enc]) H5 → Acc K H0 H p (((List.range (i + 1)).map fun k : Nat => lawRow (seedF a (20 + (k : Int)))).map Rw.enc) H5 := fun H5 z => by
      rw [e0]
      exact z.debase g2 (q.1.trans g.ex)
    dsimp only
    refine s_ifD (H0 := Hd2) (b := decide (0 < one / 97 % 3)) (et_is (et_test (ev_I0 (K := K) (evd_call (eds_cons (evd_var (.int one)) (eds_cons evd_int eds_nil)) ⟨one, 3, rfl, by decide, rfl⟩) evd_int)) rfl) g2.d2 (fun hb H5 e5 => ?_) fun hb H5 e5 => ?_
    · have hb := of_decide_eq_true hb
      have h11 := mod_lt10 (one / 11) 4 (by omega)
      have er : lawRow one = .set (lawName one) (lawSum (lawDeep one) (seedF one 1)) := if_pos hb
      refine s_app (K := K) (i := 1) (p := p) rfl (q4.grow e5) hpd hp (d := (lawRow one).enc) (evd_is (evd_tup (eds_cons evd_str (eds_cons (evd_is (evd_ixL (ds := (["a", "b", "c", "wxyz"] : List Str).map PyData.str) (evd_lst (eds_cons evd_str (eds_cons evd_str (eds_cons evd_str (eds_cons evd_str eds_nil)))) (by decide)) (evd_i (ev_I (K := K) (C := fun _ j => 0 < j) (g := fun i j => .int (i % j)) (evd_i (ev_I (K := K) (C := CDiv) (g := fun i j => .int (i / j)) (evd_var (.int one)) evd_int ⟨by decide, by decide⟩)) evd_int (by decide))) (getD_atI _ _ (.str "a") h11.1 (by show _ < ((4 : Nat) : Int); omega))) (d' := .str (lawName one)) ?_) (eds_cons (evd_var hv2) eds_nil))) (by simp)) (by rw [er]; rfl)) hlen fun H6 q6 _ => ⟨⟨_, _, _, rfl⟩, fin H6 q6⟩
      unfold lawName
      rw [List.getD_eq_getElem?_getD, List.getD_eq_getElem?_getD, List.getElem?_map]
      cases (["a", "b", "c", "wxyz"] : List Str)[(one / 11 % 4).toNat]? <;> rfl
    · have hb := of_decide_eq_false hb
      have er : lawRow one = .shw (lawSum (lawDeep one) (seedF one 1)) := if_neg hb
      exact s_app (K := K) (i := 1) (p := p) rfl (q4.grow e5) hpd hp (d := (lawRow one).enc) (evd_is (evd_tup (eds_cons evd_str (eds_cons (evd_var hv2) eds_nil)) (by simp)) (by rw [er]; rfl)) hlen fun H6 q6 _ => ⟨⟨_, _, _, rfl⟩, fin H6 q6⟩
  · rintro σ' H' ⟨⟨o1, o2, o3, rfl⟩, q⟩
    obtain ⟨Hd, g1, g2⟩ := q.done (H := H0) (H1 := H) (Ex.refl _) (fun _ h _ => h) (Ex.refl _) hp
    exact (k.seq g1).ret g1.d2 (evd_tupL (evd_var g2)) rfl
theorem sc_law_is_source : FnScope ["thing", "row"] ["thing"] (defScope s_law_is_source) := ⟨rfl, rfl, rfl, by decide +kernel, rfl, by decide +kernel, by decide +kernel⟩
theorem ok_law_is_source {f : Addr} {fd : FuncData} (F : FnP K "_law_is_source" "_law_is_source" s_law_is_source f fd) (g : mg "_law_is_source" = some (.ref f)) (T : Tx mg) (h__law_is_name : Has P w K mg base CX0 1 "_law_is_name" ["text"] (spD K F_kname)) (h__law_is_sum : Has P w K mg base CX0 8 "_law_is_sum" ["thing", "deep"] (spD K (F_ksum 6))) : Has P w K mg base CX0 9 "_law_is_source" ["thing"] (spD K F_ksource) := by
  have nd := (sc_law_is_source).nd
  refine has_d (FF := F_ksource) F g (F.bindsN fun _ _ _ _ _ _ us hl => match us, hl with | [_], _ => rfl) sc_law_is_source (by rintro _ _ ⟨_, _, rfl, _⟩; rfl) (fun cdv A outer s H vs Q E ds d H0 hr x hd hf k => ?_)
  obtain ⟨rs, a, rfl, hx, ok, hdp, hh, rfl⟩ := hf
  obtain ⟨v0, rfl, d0⟩ := dts1 hd
  refine ⟨_, (pss_cons (ps_if (PW.pt (pw_or (pt_not (kTruth (K := K) rfl (pe_callB (kIsi (K := K) rfl) rfl (T.free (by decide)) boot_isinstance (pa_cons (pv 0) (pa_cons (pe_bltn (v := .ty "tuple") rfl (T.free (by decide)) boot_tuple rfl) pa_nil))))) (pw_or1 (pt_cmpR op_gt (pe_callB (kLen (K := K) rfl) rfl (T.free (by decide)) boot_len (pa_cons (pv 0) pa_nil)) pe_int (nomark _))))) (pss_one (ps_ret pe_bl)) pss_nil)
      (pss_cons (ps_for PassesOwn.never rfl (kSeq (K := K) rfl (pv 0)) (pg_name (i := 1) nd rfl (Or.inl rfl)) (pss_cons (ps_if (PW.pt (pw_or (pt_not (kTruth (K := K) rfl (pe_callB (kIsi (K := K) rfl) rfl (T.free (by decide)) boot_isinstance (pa_cons (pv 1) (pa_cons (pe_bltn (v := .ty "tuple") rfl (T.free (by decide)) boot_tuple rfl) pa_nil))))) (pw_or (pt_cmpR op_lt (pe_callB (kLen (K := K) rfl) rfl (T.free (by decide)) boot_len (pa_cons (pv 1) pa_nil)) pe_int (nomark _)) (pw_or1 (pt_cmpR (kNotIn (K := K) rfl) (pe_ix (kIx (K := K) rfl) (pv 1) pe_int (fun _ _ => rfl)) (pe_tup (pa_cons pe_str (pa_cons pe_str pa_nil))) rfl))))) (pss_one (ps_ret pe_bl)) pss_nil)
      (pss_cons (ps_if (PW.pt (pw_or (pt_cmpR (kNe (K := K) rfl hr.units) (pe_callB (kLen (K := K) rfl) rfl (T.free (by decide)) boot_len (pa_cons (pv 1) pa_nil)) (pe_op (kAdd (K := K) rfl) pe_int (pe_callTy call_int1 rfl (T.free (by decide)) boot_int (pa_cons (pe_cmpR (kEq (K := K) rfl hr.units) (pe_ix (kIx (K := K) rfl) (pv 1) pe_int (fun _ _ => rfl)) pe_str (nomark _)) pa_nil))) (nomark _)) (pw_or1 (pt_not (kTruth (K := K) rfl (pe_has h__law_is_sum hr (by omega) rfl pass0 (pa_cons (pe_ix (kIx (K := K) rfl) (pv 1) (pe_un un_neg pe_int) (fun _ _ => rfl)) (pa_cons pe_int pa_nil)))))))) (pss_one (ps_ret pe_bl)) pss_nil)
      (pss_one (ps_if (PW.pt (pw_and (pt_cmpR (kEq (K := K) rfl hr.units) (pe_ix (kIx (K := K) rfl) (pv 1) pe_int (fun _ _ => rfl)) pe_str (nomark _)) (pw_and1 (pt_not (PW.pt (pw_and (kTruth (K := K) rfl (pe_callB (kIsi (K := K) rfl) rfl (T.free (by decide)) boot_isinstance (pa_cons (pe_ix (kIx (K := K) rfl) (pv 1) pe_int (fun _ _ => rfl)) (pa_cons (pe_bltn (v := .ty "str") rfl (T.free (by decide)) boot_str rfl) pa_nil)))) (pw_and1 (kTruth (K := K) rfl (pe_has h__law_is_name hr (by omega) rfl pass0 (pa_cons (pe_ix (kIx (K := K) rfl) (pv 1) pe_int (fun _ _ => rfl)) pa_nil)))))))))) (pss_one (ps_ret pe_bl)) pss_nil)))))
      (pss_one (ps_ret pe_bl)))), ?_⟩
  have k : Rt K H0 H (.bool (isSource a)) Q := k
  cases hT : isT a "tuple" with
  | false =>
    refine s_yes (et_or (a := true) (b := true) (et_not (a := false) (et_is (et_b (ev_isi (evd_var d0) (by decide))) hT)) fun z => nomatch z) x fun H1 e1 => (k.go e1).ret (x.trans e1) evd_bl (congrArg PyData.bool (Eq.symm ?_))
    cases a <;> first | rfl | simp [isT, tyN] at hT
  | true =>
    obtain rfl : a = .tuple rs := by
      rcases hx with hx | ⟨_, hx⟩
      · exact hx
      · rw [hx] at hT
        cases hT
    refine s_ifD (b := decide ((8 : Int) < (rs.length : Int))) (et_or (a := false) (et_not (a := true) (et_is (et_b (ev_isi (evd_var d0) (by decide))) hT)) fun _ => et_test (ev_I0 (K := K) (evd_i (ev_lenT (evd_var d0))) evd_int)) x (fun hb H1 e1 => (k.go e1).ret (x.trans e1) evd_bl (congrArg PyData.bool (Eq.symm ?_))) fun hb H1 e1 => ?_
    · have hb := of_decide_eq_true hb
      show (decide (rs.length ≤ 8) && _) = false
      rw [decide_eq_false (by omega), Bool.false_and]
    · have hb := of_decide_eq_false hb
      refine s_forT (K := K) (evd_var d0) (x.trans e1) fun H2 Hd gr => ?_
      refine ⟨fun i σ' H' => (∃ o, σ' = [some v0, o]) ∧ Ex Hd H' ∧ Ex H1 H' ∧ (rs.take i).all isRow = true, ⟨⟨none, rfl⟩, gr.d2, gr.ex, by simp⟩, fun i σ' H' z => z.2.1, ?_, ?_⟩
      · rintro i v d σ' H' hi hv ⟨⟨o, rfl⟩, xd, xh, hall⟩
        have hm : d ∈ rs := List.mem_of_getElem? hi
        have okd := ok_tup ok hm
        have dpd := depth_tup hdp hm
        have hhd := hh d hm
        have W : Dt K H' v d := dp_ex xd _ _ hv
        have e2 : (rs.take (i + 1)).all isRow = ((rs.take i).all isRow && isRow d) := by
          rw [List.take_add_one, hi, List.all_append]
          simp
        have no : ∀ (D : Ends) (H5 : Hp), D.rt = Q → Ex H' H5 → isRow d = false → tRet (tC (.bl false)) D [some v0, some v] H5 := fun D H5 hD e5 z => Rt.retB (D := D) (K := K) (H0 := H0) (H := H) (by rw [hD]; exact k) x (e1.trans (xh.trans e5)) (evd_bl (K := K)) (congrArg PyData.bool (Eq.symm (by
          show (decide (rs.length ≤ 8) && rs.all isRow) = false
          rw [Bool.and_eq_false_iff]
          right
          rw [List.all_eq_false]
          exact ⟨d, hm, by rw [z]; simp⟩)))
        have yes : ∀ (H5 : Hp), Ex H' H5 → isRow d = true → (∃ o, [some v0, some v] = [some v0, o]) ∧ Ex Hd H5 ∧ Ex H1 H5 ∧ (rs.take (i + 1)).all isRow = true := fun H5 e5 z => ⟨⟨_, rfl⟩, xd.trans e5, xh.trans e5, by rw [e2, hall, z]; rfl⟩
        cases hD : isT d "tuple" with
        | false =>
          refine s_yes (H0 := H') (et_or (a := true) (b := true) (et_not (a := false) (et_is (et_b (ev_isi (evd_var W) (by decide))) hD)) fun z => nomatch z) (Ex.refl _) fun H5 e5 => no _ _ rfl e5 ?_
          cases d <;> first | rfl | simp [isT, tyN] at hD
        | true =>
          obtain ⟨ds, rfl⟩ := isT_tup hD
          have t0 : EvT (tNot (tTrU K (tCB (rIsi K) (tCons (tVar 1) (tCons (tC (.ty "tuple")) tNil))))) [some v0, some v] H' false := et_not (a := true) (et_is (et_b (ev_isi (evd_var W) (by decide))) hD)
          have len : Ev (tCB (rLenU K) (tCons (tVar 1) tNil)) [some v0, some v] H' (.int (ds.length : Int)) := ev_lenT (evd_var W)
          rcases ds with _ | ⟨w, _ | ⟨y, r⟩⟩
          · exact s_yes (H0 := H') (et_or (a := false) (b := true) t0 fun _ => et_or (a := true) (b := true) (et_is (et_test (ev_I0 (K := K) (evd_i len) evd_int)) rfl) fun z => nomatch z) (Ex.refl _) fun H5 e5 => no _ _ rfl e5 rfl
          · exact s_yes (H0 := H') (et_or (a := false) (b := true) t0 fun _ => et_or (a := true) (b := true) (et_is (et_test (ev_I0 (K := K) (evd_i len) evd_int)) rfl) fun z => nomatch z) (Ex.refl _) fun H5 e5 => no _ _ rfl e5 (by cases w <;> rfl)
          · skip
            have t1 : EvT (tTest (tOp (rI0 fun i j => V.bl (decide (i < j))) (tCB (rLenU K) (tCons (tVar 1) tNil)) (tC (.int 2)))) [some v0, some v] H' false := et_is (et_test (ev_I0 (K := K) (evd_i len) evd_int)) (decide_eq_false (by simp only [List.length_cons]; omega))
            have i0 : EvD K (tOp (rIx K) (tVar 1) (tC (.int 0))) [some v0, some v] H' w := evd_ixT (evd_var W) evd_int (atI_0 _ _)
            have i1 : EvD K (tOp (rIx K) (tVar 1) (tC (.int 1))) [some v0, some v] H' y := evd_ixT (evd_var W) evd_int (atI_1 _ _ _)
            have fw : flatD w = true := hhd
            have t2 : EvT (tTest (tOp (rInU K true) (tOp (rIx K) (tVar 1) (tC (.int 0))) (tTup (tCons (tC (.str "set")) (tCons (tC (.str "show")) tNil))))) [some v0, some v] H' (!inD w [.str "set", .str "show"]) := et_test (ev_inT (neg := true) i0 (evd_tup (eds_cons evd_str (eds_cons evd_str eds_nil)) (by decide)) fw rfl)
            have ei : inD w [.str "set", .str "show"] = true → w = .str "set" ∨ w = .str "show" := by
              intro z
              cases w with
              | str s =>
                have z2 := (inD_str (s := s) (l := ["set", "show"])).symm.trans z
                have z3 := of_decide_eq_true z2
                simp only [List.mem_cons, List.not_mem_nil, or_false] at z3
                rcases z3 with rfl | rfl
                · exact .inl rfl
                · exact .inr rfl
              | _ => cases z
            have en : inD w [.str "set", .str "show"] = false → isRow (.tuple (w :: y :: r)) = false := by
              intro z
              cases w with
              | str s =>
                have z2 := (inD_str (s := s) (l := ["set", "show"])).symm.trans z
                have z3 := of_decide_eq_false z2
                simp only [List.mem_cons, List.not_mem_nil, or_false, not_or] at z3
                match r with
                | [] => show (decide (s = "show") && _) = false; rw [decide_eq_false z3.2, Bool.false_and]
                | [_] => show (decide (s = "set") && _) = false; rw [decide_eq_false z3.1, Bool.false_and]
                | _ :: _ :: _ => rfl
              | _ => match r with
                | [] => rfl
                | [_] => rfl
                | _ :: _ :: _ => rfl
            refine s_ifD (H0 := H') (b := !inD w [.str "set", .str "show"]) (et_or (a := false) t0 fun _ => et_or (a := false) t1 fun _ => t2) (Ex.refl _) (fun hb5 H5 e5 => no _ _ rfl e5 (en (by simpa using hb5))) fun hb5 H5 e5 => ?_
            have eqs : ∀ (u : Str), w = .str u → okD (.str u) = true → Ev (tOp (rEqD K) (tOp (rIx K) (tVar 1) (tC (.int 0))) (tC (.str "set"))) [some v0, some v] H' (.bl (decide (u = "set"))) := fun u hu hou => by
              subst hu
              refine ev_is (ev_eq i0 evd_str (shapedS hou) (by decide +kernel)) ?_
              show V.bl (u == ("set" : Str)) = _
              congr 1
            have two : ∀ (u : Str), w = .str u → okD (.str u) = true → Ev (tOp (rAddU K) (tC (.int 2)) (tCB (fun xs H Q => (∃ i, xs = [.int i] ∧ Q (.int i) H) ∨ ∃ k, xs = [.bl k] ∧ Q (.int (if k then 1 else 0)) H) (tCons (tOp (rEqD K) (tOp (rIx K) (tVar 1) (tC (.int 0))) (tC (.str "set"))) tNil))) [some v0, some v] H' (.int (2 + if decide (u = "set") then 1 else 0)) := fun u hu hou => ev_int (K := K) (ev_addI evd_int (evd_i (ev_intB (eqs u hu hou))))
            rcases ei (by simpa using hb5) with rfl | rfl
            · have q1 := ev_is (eqs "set" rfl ok_set) (w := .bl true) (congrArg V.bl (decide_eq_true rfl))
              have q2 := ev_is (two "set" rfl ok_set) (w := .int 3) (by rw [decide_eq_true rfl] <;> rfl)
              rcases r with _ | ⟨z, _ | ⟨z2, r⟩⟩
              · exact s_yes (H0 := H') (et_or (a := true) (b := true) (et_is (et_test (ev_ne (K := K) (evd_i len) (evd_i q2) rfl rfl)) rfl) fun z => nomatch z) e5 fun H6 e6 => no _ _ rfl (e5.trans e6) (by show (decide (("set" : Str) = "show") && isSum 6 y) = false; rw [decide_eq_false (by decide +kernel)]; rfl)
              · have il : EvD K (tOp (rIx K) (tVar 1) (tUn (rU fun i => .int (-i)) (tC (.int 1)))) [some v0, some v] H' z := evd_ixT (evd_var W) (evd_i (ev_un (x := .int 1) ev_c ru_neg)) (atI_last [.str "set", y] z)
                have er : isRow (.tuple [.str "set", y, z]) = (isName y && isSum 6 z) := by show (decide (("set" : Str) = "set") && (isName y && isSum 6 z)) = (isName y && isSum 6 z); rw [decide_eq_true rfl, Bool.true_and]
                refine s_ifD (H0 := H') (b := !isSum 6 z) (et_or (a := false) (et_is (et_test (ev_ne (K := K) (evd_i len) (evd_i q2) rfl rfl)) rfl) fun _ => et_not (et_b (ev_bl (evd_call (eds_cons il (eds_cons evd_int eds_nil)) ⟨z, rfl, ok_tup okd (by simp), depth_tup dpd (by simp), rfl⟩)))) e5 (fun hb6 H6 e6 => no _ _ rfl (e5.trans e6) (by rw [er]; simp at hb6; rw [hb6, Bool.and_false])) fun hb6 H6 e6 => ?_
                have hz6 : isSum 6 z = true := by simpa using hb6
                cases hy : isT y "str" with
                | false =>
                  refine s_yes (H0 := H') (et_and (a := true) (b := true) (et_test q1) fun _ => et_not (a := false) (et_and (a := false) (b := false) (et_is (et_b (ev_isi i1 (by decide))) hy) fun z => nomatch z)) (e5.trans e6) fun H7 e7 => no _ _ rfl ((e5.trans e6).trans e7) ?_
                  rw [er]
                  cases y <;> first | rfl | simp [isT, tyN] at hy
                | true =>
                  obtain ⟨u, rfl⟩ := isT_str hy
                  refine s_ifD (H0 := H') (b := !nameS u) (et_and (a := true) (et_test q1) fun _ => et_not (et_and (a := true) (b := nameS u) (et_is (et_b (ev_isi i1 (by decide))) hy) fun _ => et_b (ev_bl (evd_call (eds_cons i1 eds_nil) ⟨u, rfl, ok_tup okd (by simp), rfl⟩)))) (e5.trans e6) (fun hb7 H7 e7 => no _ _ rfl ((e5.trans e6).trans e7) ?_) fun hb7 H7 e7 => yes _ ((e5.trans e6).trans e7) ?_
                  · rw [er]
                    show (nameS u && _) = false
                    simp at hb7
                    rw [hb7, Bool.false_and]
                  · rw [er]
                    show (nameS u && _) = true
                    simp at hb7
                    rw [hb7, hz6]
                    rfl
              · exact s_yes (H0 := H') (et_or (a := true) (b := true) (et_is (et_test (ev_ne (K := K) (evd_i len) (evd_i q2) rfl rfl)) (by show (!((((r.length + 1 + 1 + 1 + 1 : Nat) : Int)) == 3)) = true; simp; omega)) fun z => nomatch z) e5 fun H6 e6 => no _ _ rfl (e5.trans e6) rfl
            · have q1 := ev_is (eqs "show" rfl ok_show) (w := .bl false) (congrArg V.bl (decide_eq_false (by decide +kernel)))
              have q2 := ev_is (two "show" rfl ok_show) (w := .int 2) (by rw [decide_eq_false (by decide +kernel)] <;> rfl)
              rcases r with _ | ⟨z, r⟩
              · have il : EvD K (tOp (rIx K) (tVar 1) (tUn (rU fun i => .int (-i)) (tC (.int 1)))) [some v0, some v] H' y := evd_ixT (evd_var W) (evd_i (ev_un (x := .int 1) ev_c ru_neg)) (atI_last [.str "show"] y)
                have er : isRow (.tuple [.str "show", y]) = isSum 6 y := by show (decide (("show" : Str) = "show") && isSum 6 y) = isSum 6 y; rw [decide_eq_true rfl, Bool.true_and]
                refine s_ifD (H0 := H') (b := !isSum 6 y) (et_or (a := false) (et_is (et_test (ev_ne (K := K) (evd_i len) (evd_i q2) rfl rfl)) rfl) fun _ => et_not (et_b (ev_bl (evd_call (eds_cons il (eds_cons evd_int eds_nil)) ⟨y, rfl, ok_tup okd (by simp), depth_tup dpd (by simp), rfl⟩)))) e5 (fun hb6 H6 e6 => no _ _ rfl (e5.trans e6) (by rw [er]; simpa using hb6)) fun hb6 H6 e6 => ?_
                exact s_nay (H0 := H') (et_and (a := false) (b := false) (et_test q1) fun z => nomatch z) (e5.trans e6) fun H7 e7 => yes _ ((e5.trans e6).trans e7) (by rw [er]; simpa using hb6)
              · refine s_yes (H0 := H') (et_or (a := true) (b := true) (et_is (et_test (ev_ne (K := K) (evd_i len) (evd_i q2) rfl rfl)) (by show (!((((r.length + 1 + 1 + 1 : Nat) : Int)) == 2)) = true; simp; omega)) fun z => nomatch z) e5 fun H6 e6 => no _ _ rfl (e5.trans e6) ?_
                match r with
                | [] => show (decide (("show" : Str) = "set") && (isName y && isSum 6 z)) = false; rw [decide_eq_false (by decide +kernel)]; rfl
                | _ :: _ => rfl
      · rintro σ' H' ⟨⟨o, rfl⟩, xd, xh, hall⟩
        rw [List.take_length] at hall
        show tRet (tC (.bl true)) { nx := fun _ H' => Q .non H', rt := Q } [some v0, o] H'
        refine k.retB x (e1.trans xh) (evd_bl (K := K)) (congrArg PyData.bool ?_)
        show true = (decide (rs.length ≤ 8) && rs.all isRow)
        rw [hall, decide_eq_true (by omega)]
        rfl
theorem sc_law_is_name : FnScope ["text", "sign"] ["text"] (defScope s_law_is_name) := ⟨rfl, rfl, rfl, by decide +kernel, rfl, by decide +kernel, by decide +kernel⟩
theorem ok_law_is_name {f : Addr} {fd : FuncData} (F : FnP K "_law_is_name" "_law_is_name" s_law_is_name f fd) (g : mg "_law_is_name" = some (.ref f)) (T : Tx mg)  : Has P w K mg base CX0 1 "_law_is_name" ["text"] (spD K F_kname) := by
  have nd := (sc_law_is_name).nd
  refine has_d (FF := F_kname) F g (F.bindsN fun _ _ _ _ _ _ us hl => match us, hl with | [_], _ => rfl) sc_law_is_name (by rintro _ _ ⟨_, rfl, _⟩; rfl) (fun cdv A outer s H vs Q E ds d H0 hr x hd hf k => ?_)
  obtain ⟨z, rfl, ok, rfl⟩ := hf
  obtain ⟨v0, rfl, d0⟩ := dts1 hd
  refine ⟨_, (pss_cons (ps_if (PW.pt (pw_or (pt_cmpR (kIn (K := K) rfl) (pv 0) (pe_tup (pa_cons pe_str (pa_cons pe_str (pa_cons pe_str (pa_cons pe_str (pa_cons pe_str (pa_cons pe_str (pa_cons pe_str pa_nil)))))))) rfl) (pw_or1 (pt_not (pt_chain op_le op_le pe_int (pe_callB (kLen (K := K) rfl) rfl (T.free (by decide)) boot_len (pa_cons (pv 0) pa_nil)) pe_int))))) (pss_one (ps_ret pe_bl)) pss_nil)
      (pss_one (ps_ret (pe_cmpR (kEq (K := K) rfl hr.units) (pe_lc (own := [("sign", 1)]) rfl nd (kSeq (K := K) rfl (pv 0)) (blkOk_by (N := ["text", "sign"]) (sc := defScope s_law_is_name) (own := [("sign", 1)]) (by decide +kernel)) (fun _ _ _ _ _ => (pg_name (i := 1) nd rfl (Or.inl rfl))) (fun _ _ _ _ _ => (pts_one (pt_not (pt_chain kLeS kLeS pe_str (pv 1) pe_str)))) (fun _ _ _ _ _ => (pv 1))) (pe_lst pa_nil) (nomark _))))), ?_⟩
  have k : Rt K H0 H (.bool (nameS z)) Q := k
  have hz := ok_str ok
  refine s_ifD (b := decide (z ∈ barred7) || !(decide ((1 : Int) ≤ (z.length : Int)) && decide ((z.length : Int) ≤ 4))) (et_or (et_is (et_test (ev_inT (neg := false) (evd_var d0) (evd_is (d' := .tuple (barred7.map PyData.str)) (evd_tup (eds_cons evd_str (eds_cons evd_str (eds_cons evd_str (eds_cons evd_str (eds_cons evd_str (eds_cons evd_str (eds_cons evd_str eds_nil))))))) (by decide)) rfl) rfl (flat_strs _))) (by simp [inD_str])) fun _ => et_not (et_chain (K := K) (p := fun i j => decide (i ≤ j)) (q := fun i j => decide (i ≤ j)) evd_int (evd_i (ev_lenS (evd_var d0) (sz_of hz))) evd_int)) x (fun hb H1 e1 => ?_) fun hb H1 e1 => ?_
  · refine (k.go e1).ret (x.trans e1) evd_bl (congrArg PyData.bool (Eq.symm ?_))
    unfold nameS
    rw [Bool.or_eq_true] at hb
    rcases hb with hb | hb
    · by_cases hl : z.length ≤ 4
      · rw [name7 z hl] at hb
        rw [hb]
        simp
      · rw [decide_eq_false hl]
        simp
    · have q : (decide (1 ≤ z.length) && decide (z.length ≤ 4)) = false := by
        rw [Bool.not_eq_true', Bool.and_eq_false_iff] at hb
        rw [Bool.and_eq_false_iff]
        simp only [decide_eq_false_iff_not] at hb ⊢
        omega
      rw [q, Bool.false_and]
  · rw [Bool.or_eq_false_iff, Bool.not_eq_false'] at hb
    have hl : (decide (1 ≤ z.length) && decide (z.length ≤ 4)) = true := by
      have := hb.2
      rw [Bool.and_eq_true] at this ⊢
      simp only [decide_eq_true_eq] at this ⊢
      omega
    have hl4 : z.length ≤ 4 := by
      rw [Bool.and_eq_true] at hl
      exact of_decide_eq_true hl.2
    have hb7 := hb.1
    rw [name7 z hl4] at hb7
    have okl : ∀ d ∈ ((z.cps.toList.filter fun c => !decide (c ∈ smallS.cps.toList)).map fun c => PyData.str ⟨#[c]⟩), okD d = true := by
      intro d hd
      obtain ⟨c, hc, rfl⟩ := List.mem_map.mp hd
      exact ok_sign ok (List.mem_filter.mp hc).1
    refine (k.go e1).ret (x.trans e1) (evd_b (ev_eq (evd_lcS (fun c => !decide (c ∈ smallS.cps.toList)) (fun c => .str ⟨#[c]⟩) (evd_var d0) (by omega) (fun _ => rfl) (fun c H1 _ _ => et_not (et_is (et_test (ev_chainS (K := K) evd_str (evd_var (.str _)) evd_str)) (small_le c))) fun c H1 _ _ _ => evd_var (.str _)) (evd_lst eds_nil (by decide)) (shaped_of (ok_lst_of okl) ?_) rfl)) (congrArg PyData.bool ?_)
    · refine Nat.le_trans (depth_list (n := 0) fun d hd => ?_) (by decide)
      obtain ⟨c, hc, rfl⟩ := List.mem_map.mp hd
      unfold PyData.depth
      omega
    · rw [eqv_nil]
      unfold nameS
      rw [hl, hb7, Bool.true_and, Bool.not_false, Bool.true_and, List.isEmpty_map, Bool.eq_iff_iff, List.isEmpty_iff, List.filter_eq_nil_iff, List.all_eq_true]
      simp
theorem sc_law_is_sum : FnScope ["thing", "deep", "sizes", "part"] ["thing", "deep"] (defScope s_law_is_sum) := ⟨rfl, rfl, rfl, by decide +kernel, rfl, by decide +kernel, by decide +kernel⟩
theorem step_law_is_sum {f : Addr} {fd : FuncData} (F : FnP K "_law_is_sum" "_law_is_sum" s_law_is_sum f fd) (g : mg "_law_is_sum" = some (.ref f)) (T : Tx mg) (n : Nat) (h__law_is_sum : Has P w K mg base CX0 (n + 1) "_law_is_sum" ["thing", "deep"] (spD K (Fprev F_ksum n))) (h__law_is_name : Has P w K mg base CX0 1 "_law_is_name" ["text"] (spD K F_kname)) : HasF P w K mg base CX0 (n + 2) "_law_is_sum" ["thing", "deep"] (spD K (F_ksum n)) f fd := by
  have nd := (sc_law_is_sum).nd
  refine hasF_d (FF := F_ksum n) F g (F.bindsN fun _ _ _ _ _ _ us hl => match us, hl with | [_, _], _ => rfl) sc_law_is_sum (by rintro _ _ ⟨_, rfl, _⟩; rfl) (fun cdv A outer s H vs Q E ds d H0 hr x hd hf k => ?_)
  obtain ⟨a, rfl, ok, hdp, rfl⟩ := hf
  obtain ⟨v0, v1, rfl, d0, d1⟩ := dts2 hd
  refine ⟨_, (pss_cons (ps_if (kTruth (K := K) rfl (pe_callB (kIsi (K := K) rfl) rfl (T.free (by decide)) boot_isinstance (pa_cons (pv 0) (pa_cons (pe_bltn (v := .ty "str") rfl (T.free (by decide)) boot_str rfl) pa_nil)))) (pss_one (ps_ret (pe_has h__law_is_name hr (by omega) rfl pass0 (pa_cons (pv 0) pa_nil)))) pss_nil)
      (pss_cons (ps_if (pt_not (kTruth (K := K) rfl (pe_callB (kIsi (K := K) rfl) rfl (T.free (by decide)) boot_isinstance (pa_cons (pv 0) (pa_cons (pe_bltn (v := .ty "tuple") rfl (T.free (by decide)) boot_tuple rfl) pa_nil))))) (pss_one (ps_ret (pe_and (pe_callB (kIsi (K := K) rfl) rfl (T.free (by decide)) boot_isinstance (pa_cons (pv 0) (pa_cons (pe_bltn (v := .ty "int") rfl (T.free (by decide)) boot_int rfl) pa_nil))) (pe_and (kNot (K := K) rfl (pe_callB (kIsi (K := K) rfl) rfl (T.free (by decide)) boot_isinstance (pa_cons (pv 0) (pa_cons (pe_bltn (v := .ty "bool") rfl (T.free (by decide)) boot_bool rfl) pa_nil)))) (pe_one (pe_chain op_le op_le pe_int (pv 0) pe_int)))))) pss_nil)
      (pss_cons (ps_set (i := 2) nd rfl (Or.inl rfl) (pe_disp (pps_cons pe_str pe_int (pps_cons pe_str pe_int (pps_cons pe_str pe_int (pps_cons pe_str pe_int (pps_cons pe_str pe_int (pps_cons pe_str pe_int pps_nil)))))) rfl rfl (by simp) (by decide)))
      (pss_cons (ps_if (PW.pt (pw_or (pt_cmpR op_gt (pv 1) pe_int (nomark _)) (pw_or (pt_cmpR (kEq (K := K) rfl hr.units) (pv 0) (pe_tup pa_nil) (nomark _)) (pw_or (pt_not (kTruth (K := K) rfl (pe_callB (kIsi (K := K) rfl) rfl (T.free (by decide)) boot_isinstance (pa_cons (pe_ix (kIx (K := K) rfl) (pv 0) pe_int (fun _ _ => rfl)) (pa_cons (pe_bltn (v := .ty "str") rfl (T.free (by decide)) boot_str rfl) pa_nil))))) (pw_or1 (pt_cmpR (kNe (K := K) rfl hr.units) (pe_callB (kLen (K := K) rfl) rfl (T.free (by decide)) boot_len (pa_cons (pv 0) pa_nil)) (pe_dget2 (Nat.lt_of_le_of_lt (Nat.add_le_add_left (by decide) _) hr.units) (pv 2) (pe_ix (kIx (K := K) rfl) (pv 0) pe_int (fun _ _ => rfl)) pe_int ⟨rfl, rfl, rfl, rfl⟩) (nomark _))))))) (pss_one (ps_ret pe_bl)) pss_nil)
      (pss_one (ps_ret (pe_cmpR (kEq (K := K) rfl hr.units) (pe_lc (own := [("part", 3)]) rfl nd (kSeq (K := K) rfl (pe_slice (kSl (K := K) rfl) (pv 0) (po_some pe_int) po_none)) (blkOk_by (N := ["thing", "deep", "sizes", "part"]) (sc := defScope s_law_is_sum) (own := [("part", 3)]) (by decide +kernel)) (fun _ _ _ _ _ => (pg_name (i := 3) nd rfl (Or.inl rfl))) (fun _ _ _ _ _ => (pts_one (pt_not (kTruth (K := K) rfl (pe_has h__law_is_sum hr (by omega) rfl pass0 (pa_cons (pv 3) (pa_cons (pe_op (kAdd (K := K) rfl) (pv 1) pe_int) pa_nil))))))) (fun _ _ _ _ _ => (pv 3))) (pe_lst pa_nil) (nomark _)))))))), ?_⟩
  have k : Rt K H0 H (.bool (isSum n a)) Q := k
  cases hS : isT a "str" with
  | true =>
    obtain ⟨z, rfl⟩ := isT_str hS
    refine s_yes (et_is (et_b (ev_isi (evd_var d0) (by decide))) hS) x fun H1 e1 => ?_
    refine (k.go e1).ret (x.trans e1) (evd_call (eds_cons (evd_var d0) eds_nil) ⟨_, rfl, ok, rfl⟩) ?_
    cases n <;> rfl
  | false =>
    refine s_nay (et_is (et_b (ev_isi (evd_var d0) (by decide))) hS) x fun H1 e1 => ?_
    cases hT : isT a "tuple" with
    | false =>
      refine s_yes (et_not (a := false) (et_is (et_b (ev_isi (evd_var d0) (by decide))) hT)) (x.trans e1) fun H2 e2 => ?_
      refine ((k.go e1).go e2).ret ((x.trans e1).trans e2) (evd_is (d := .bool (isT a "int" && (!isT a "bool" && isWithin a 0 9999))) (evd_b (ev_andV (ev_isi (evd_var d0) (by decide)) fun e1 => ev_andV (ev_notB (ev_isi (evd_var d0) (by decide))) fun e2 => ?_)) (congrArg PyData.bool (within_eq a 0 9999))) ?_
      · obtain ⟨i, rfl⟩ : ∃ i, a = .int i := by
          cases a <;> simp [isT, tyN] at e1 e2
          exact ⟨_, rfl⟩
        exact ev_chain (K := K) (p := fun i j => decide (i ≤ j)) (q := fun i j => decide (i ≤ j)) evd_int (evd_var d0) evd_int
      · rw [isSum_nontup hS hT]
    | true =>
      refine s_nay (et_not (a := true) (et_is (et_b (ev_isi (evd_var d0) (by decide))) hT)) (x.trans e1) fun H2 e2 => ?_
      obtain ⟨ds, rfl⟩ := isT_tup hT
      refine s_sizes fun p H3 e3 hp => ?_
      have x3 := ((x.trans e1).trans e2).trans e3
      have y3 := (e1.trans e2).trans e3
      have D0 := dp_ex x3 _ _ d0
      have D1 := dp_ex x3 _ _ d1
      dsimp only
      have no : ∀ {H4 : Hp}, Ex H3 H4 → isSum n (.tuple ds) = false → tRet (tC (.bl false)) { nx := fun _ H' => Q .non H', rt := Q } ((start ["thing", "deep", "sizes", "part"] [v0, v1]).set 2 (some (.ref p))) H4 := fun e4 z => k.retB x (y3.trans e4) (evd_bl (K := K)) (congrArg PyData.bool z.symm)
      cases n with
      | zero =>
        refine s_yes (H0 := H3) (et_or (a := true) (b := true) (et_test (ev_is (ev_I0 (K := K) (evd_var D1) evd_int) rfl)) fun z => nomatch z) (Ex.refl _) fun H4 e4 => no e4 (by simp [isSum])
      | succ m =>
        have t1 : EvT (tTest (tOp (rI0 fun i j => V.bl (decide (j < i))) (tVar 1) (tC (.int 5)))) ((start ["thing", "deep", "sizes", "part"] [v0, v1]).set 2 (some (.ref p))) H3 false := et_test (ev_is (ev_I0 (K := K) (evd_var D1) evd_int) (by show V.bl (decide ((5 : Int) < 6 - ((m + 1 : Nat) : Int))) = _; rw [decide_eq_false (by omega)]))
        have eqn : Ev (tOp (rEqD K) (tVar 0) (tTup tNil)) ((start ["thing", "deep", "sizes", "part"] [v0, v1]).set 2 (some (.ref p))) H3 (.bl ds.isEmpty) := by
          rw [← eqv_unit]
          exact ev_eq (evd_var D0) (evd_tup eds_nil (by decide)) (shaped_of ok (Nat.le_trans hdp (by decide))) rfl
        cases ds with
        | nil =>
          refine s_yes (H0 := H3) (et_or (a := false) (b := true) t1 fun _ => et_or (a := true) (b := true) (et_test eqn) fun z => nomatch z) (Ex.refl _) fun H4 e4 => no e4 ?_
          rfl
        | cons w r =>
          have i0 : EvD K (tOp (rIx K) (tVar 0) (tC (.int 0))) ((start ["thing", "deep", "sizes", "part"] [v0, v1]).set 2 (some (.ref p))) H3 w := evd_ixT (evd_var D0) evd_int (atI_0 _ _)
          cases hw : isT w "str" with
          | false =>
            refine s_yes (H0 := H3) (et_or (a := false) (b := true) t1 fun _ => et_or (a := false) (b := true) (et_test eqn) fun _ => et_or (a := true) (b := true) (et_not (a := false) (et_is (et_b (ev_isi i0 (by decide))) hw)) fun z => nomatch z) (Ex.refl _) fun H4 e4 => no e4 ?_
            cases w <;> first | rfl | simp [isT, tyN] at hw
          | true =>
            obtain ⟨z, rfl⟩ := isT_str hw
            refine s_ifD (H0 := H3) (b := !sumHead z (r.length + 1)) (et_or (a := false) t1 fun _ => et_or (a := false) (et_test eqn) fun _ => et_or (a := false) (et_not (a := true) (et_is (et_b (ev_isi i0 (by decide))) hw)) fun _ => et_is (et_test (ev_ne (evd_i (ev_lenT (evd_var D0))) (evd_i (ev_sizeGet (K := K) rfl hp i0)) rfl rfl)) ?_) (Ex.refl _) (fun hb H4 e4 => ?_) fun hb H4 e4 => ?_
            · rw [← size_head] <;> rfl
            · refine no e4 ?_
              rw [Bool.not_eq_true'] at hb
              show (sumHead z (r.length + 1) && _) = false
              rw [hb, Bool.false_and]
            · rw [Bool.not_eq_false'] at hb
              have hlen : r.length ≤ 3 := by
                unfold sumHead at hb
                simp at hb
                omega
              have okr : ∀ d ∈ r, okD d = true := fun d hd => ok_tup ok (List.mem_cons_of_mem _ hd)
              have dpr : ∀ d ∈ r, d.depth ≤ 60 := fun d hd => depth_tup hdp (List.mem_cons_of_mem _ hd)
              have D0' := dp_ex e4 _ _ D0
              have sl : EvD K (tSl (rSlU K) (tVar 0) (tPart (tC (.int 1))) tNoPart) ((start ["thing", "deep", "sizes", "part"] [v0, v1]).set 2 (some (.ref p))) H4 (.tuple r) := evd_is (evd_slT (evd_var D0') (eo_i (K := K) evd_int) eo_none) (congrArg PyData.tuple (cut_tail _ _))
              refine k.retB x (y3.trans e4) (evd_b (ev_eq (evd_lcT (fun d => !isSum m d) id sl (by omega) (fun _ => rfl) (fun v d H5 e5 hm hv => et_not (et_b (ev_bl (evd_call (eds_cons (evd_var hv) (eds_cons (evd_is (d' := .int (6 - (m : Int))) (ev_addI (evd_var (dp_ex (e4.trans e5) _ _ D1)) evd_int) ?_) eds_nil)) ⟨d, rfl, okr d hm, dpr d hm, rfl⟩)))) fun v d H5 _ _ _ hv => evd_var hv) (evd_lst eds_nil (by decide)) (shaped_of (ok_lst_of ?_) ?_) rfl)) (congrArg PyData.bool ?_)
              · congr 1
                omega
              · intro d hd
                rw [List.map_id] at hd
                exact okr d (List.mem_filter.mp hd).1
              · refine Nat.le_trans (depth_list (n := 60) fun d hd => ?_) (by decide)
                rw [List.map_id] at hd
                exact dpr d (List.mem_filter.mp hd).1
              · rw [eqv_nil]
                show (List.map id (r.filter fun d => !isSum m d)).isEmpty = (sumHead z (r.length + 1) && r.all (isSum m))
                rw [hb, Bool.true_and, List.isEmpty_map, Bool.eq_iff_iff, List.isEmpty_iff, List.filter_eq_nil_iff, List.all_eq_true]
                simp
theorem all_law_is_sum {f : Addr} {fd : FuncData} (F : FnP K "_law_is_sum" "_law_is_sum" s_law_is_sum f fd) (g : mg "_law_is_sum" = some (.ref f)) (T : Tx mg)  (h__law_is_name : Has P w K mg base CX0 1 "_law_is_name" ["text"] (spD K F_kname)) : ∀ n : Nat, HasF P w K mg base CX0 (n + 2) "_law_is_sum" ["thing", "deep"] (spD K (F_ksum n)) f fd
  | 0 => step_law_is_sum F g T 0 (h__law_is_sum := has_never F g (F.bindsN fun _ _ _ _ _ _ us hl => match us, hl with | [_, _], _ => rfl) _ fun _ _ z => z) (h__law_is_name := h__law_is_name)
  | n + 1 => step_law_is_sum F g T (n + 1) (h__law_is_sum := (all_law_is_sum F g T (h__law_is_name := h__law_is_name) n).has) (h__law_is_name := h__law_is_name)
theorem ok_law_is_sum {f : Addr} {fd : FuncData} (F : FnP K "_law_is_sum" "_law_is_sum" s_law_is_sum f fd) (g : mg "_law_is_sum" = some (.ref f)) (T : Tx mg)  (h__law_is_name : Has P w K mg base CX0 1 "_law_is_name" ["text"] (spD K F_kname)) : Has P w K mg base CX0 8 "_law_is_sum" ["thing", "deep"] (spD K (F_ksum 6)) :=
  (all_law_is_sum F g T (h__law_is_name := h__law_is_name) 6).has
theorem sc_law_text : FnScope ["source", "row", "part"] ["source"] (defScope s_law_text) := ⟨rfl, rfl, rfl, by decide +kernel, rfl, by decide +kernel, by decide +kernel⟩
theorem ok_law_text {f : Addr} {fd : FuncData} (F : FnP K "_law_text" "_law_text" s_law_text f fd) (g : mg "_law_text" = some (.ref f)) (T : Tx mg) (h__law_words : Has P w K mg base CX0 8 "_law_words" ["some"] (spD K (F_words 6))) : Has P w K mg base CX0 9 "_law_text" ["source"] (spD K F_textof) := by
  have nd := (sc_law_text).nd
  refine has_d (FF := F_textof) F g (F.bindsN fun _ _ _ _ _ _ us hl => match us, hl with | [_], _ => rfl) sc_law_text (by rintro _ _ ⟨_, rfl, _⟩; rfl) (fun cdv A outer s H vs Q E ds d H0 hr x hd hf k => ?_)
  obtain ⟨src, rfl, hg, rfl⟩ := hf
  obtain ⟨v0, rfl, d0⟩ := dts1 hd
  refine ⟨_, (pss_one (ps_ret (kJoin (K := K) rfl pe_str (pe_lc (own := [("row", 1)]) rfl nd (kSeq (K := K) rfl (pv 0)) (blkOk_by (N := ["source", "row", "part"]) (sc := defScope s_law_text) (own := [("row", 1)]) (by decide +kernel)) (fun _ _ _ _ _ => (pg_name (i := 1) nd rfl (Or.inl rfl))) (fun _ _ _ _ _ => pts_nil) (fun _ _ _ _ _ => (kJoin (K := K) rfl pe_str (pe_op (kAdd (K := K) rfl) (pe_lc (own := [("part", 2)]) rfl nd (kSeq (K := K) rfl (pe_slice (kSl (K := K) rfl) (pv 1) po_none (po_some (pe_un un_neg pe_int)))) (blkOk_by (N := ["source", "row", "part"]) (sc := { kind := ScopeKind.function, names := [(".0", NameKind.local), ("row", NameKind.local), ("_law_words", NameKind.globalImplicit)], isGenerator := false, isCoroutine := false }) (own := [("part", 2)]) (by decide +kernel)) (fun _ _ _ _ _ => (pg_name (i := 2) nd rfl (Or.inl rfl))) (fun _ _ _ _ _ => pts_nil) (fun _ _ _ _ _ => (pe_callTy kStr rfl (T.free (by decide)) boot_str (pa_cons (pv 2) pa_nil)))) (pe_has h__law_words hr (by omega) rfl pass0 (pa_cons (pe_ix (kIx (K := K) rfl) (pv 1) (pe_un un_neg pe_int) (fun _ _ => rfl)) pa_nil))))))))), ?_⟩
  have k : Rt K H0 H (.str (textS src)) Q := k
  have h8 := goodS_len hg
  refine k.ret x (evd_join (ys := src.map lineS) (evd_is (evd_lcT (fun _ => true) (fun d => .str (lineD d)) (evd_var d0) (by rw [List.length_map]; omega) (fun _ => rfl) (fun _ _ _ _ _ _ => et_yesT) fun v d H1 _ hm _ hv => ?_) ?_) (text_size hg)) rfl
  rotate_left
  · rw [List.filter_eq_self.mpr fun _ _ => rfl, List.map_map, List.map_map]
    refine congrArg PyData.list (List.map_congr_left fun r hr => ?_)
    exact congrArg PyData.str (lineD_enc (good_row hg hr))
  obtain ⟨r, hr, rfl⟩ := List.mem_map.mp hm
  have hgr := good_row hg hr
  obtain ⟨gs, ds6⟩ := row_depth hgr
  have wf := words_few ds6
  have m1 : ∀ {σ : L2.St} {H : Hp}, EvD K (tUn (rU fun i => .int (-i)) (tC (.int 1))) σ H (.int (-1)) := evd_i (ev_un (x := .int 1) ev_c ru_neg)
  obtain ⟨ds, hds, hcut⟩ := cut_init (r := r)
  have hl2 : r.heads.length ≤ 2 := by cases r <;> simp [Rw.heads]
  have hvd : Dt K H1 v (.tuple ds) := hds ▸ hv
  show EvD K _ _ H1 (.str (lineD r.enc))
  rw [lineD_enc hgr]
  exact evd_join (ys := r.words) (evd_is (evd_addL (evd_is (evd_lcT (K := K) (fun _ => true) id (evd_is (evd_slT (evd_var hvd) eo_none (eo_i (K := K) m1)) (congrArg PyData.tuple hcut)) (by rw [List.length_map]; omega) (fun _ => rfl) (fun _ _ _ _ _ _ => et_yesT) fun v2 d2 H2 _ hm2 _ hv2 => by
    obtain ⟨z, hz, rfl⟩ := List.mem_map.mp hm2
    exact evd_strS (evd_var hv2)) (by rw [List.filter_eq_self.mpr fun _ _ => rfl, List.map_id])) (evd_call (eds_cons (evd_last (evd_var hv)) eds_nil) ⟨r.sum, rfl, gs, ds6, ds6, rfl⟩) (by rw [List.length_map, List.length_map]; omega)) (by rw [heads_words, List.map_append])) (line_size hgr)
theorem sc_law_words : FnScope ["some", "found", "part"] ["some"] (defScope s_law_words) := ⟨rfl, rfl, rfl, by decide +kernel, rfl, by decide +kernel, by decide +kernel⟩
theorem step_law_words {f : Addr} {fd : FuncData} (F : FnP K "_law_words" "_law_words" s_law_words f fd) (g : mg "_law_words" = some (.ref f)) (T : Tx mg) (n : Nat) (h__law_words : Has P w K mg base CX0 (n + 1) "_law_words" ["some"] (spD K (Fprev F_words n))) : HasF P w K mg base CX0 (n + 2) "_law_words" ["some"] (spD K (F_words n)) f fd := by
  have nd := (sc_law_words).nd
  refine hasF_d (FF := F_words n) F g (F.bindsN fun _ _ _ _ _ _ us hl => match us, hl with | [_], _ => rfl) sc_law_words (by rintro _ _ ⟨_, rfl, _⟩; rfl) (fun cdv A outer s H vs Q E ds d H0 hr x hd hf k => ?_)
  obtain ⟨s, rfl, hg, hn, h6, rfl⟩ := hf
  obtain ⟨v0, rfl, d0⟩ := dts1 hd
  refine ⟨_, (pss_cons (ps_if (pt_not (kTruth (K := K) rfl (pe_callB (kIsi (K := K) rfl) rfl (T.free (by decide)) boot_isinstance (pa_cons (pv 0) (pa_cons (pe_bltn (v := .ty "tuple") rfl (T.free (by decide)) boot_tuple rfl) pa_nil))))) (pss_one (ps_ret (pe_lst (pa_cons (pe_callTy kStr rfl (T.free (by decide)) boot_str (pa_cons (pv 0) pa_nil)) pa_nil)))) pss_nil)
      (pss_cons (ps_set (i := 1) nd rfl (Or.inl rfl) (pe_lst (pa_cons (pe_ix (kIx (K := K) rfl) (pv 0) pe_int (fun _ _ => rfl)) pa_nil)))
      (pss_cons (ps_for PassesOwn.never rfl (kSeq (K := K) rfl (pe_slice (kSl (K := K) rfl) (pv 0) (po_some pe_int) po_none)) (pg_name (i := 2) nd rfl (Or.inl rfl)) (pss_one (ps_set (i := 1) nd rfl (Or.inl rfl) (pe_op (kAdd (K := K) rfl) (pv 1) (pe_has h__law_words hr (by omega) rfl pass0 (pa_cons (pv 2) pa_nil))))))
      (pss_one (ps_ret (pv 1)))))), ?_⟩
  have k : Rt K H0 H (.list (s.words.map PyData.str)) Q := k
  cases hT : isT s.enc "tuple" with
  | false =>
    refine s_yes (et_not (a := false) (et_is (et_b (ev_isi (evd_var d0) (by decide))) hT)) x fun H1 e1 => ?_
    cases s with
    | num i =>
      have hg : (decide (0 ≤ i) && decide (i ≤ 9999)) = true := hg
      rw [Bool.and_eq_true, decide_eq_true_iff, decide_eq_true_iff] at hg
      exact (k.go e1).ret (x.trans e1) (evd_lst (eds_cons (evd_strI (evd_var d0) (num_log hg.1 hg.2)) eds_nil) (by simp)) rfl
    | nm z => exact (k.go e1).ret (x.trans e1) (evd_lst (eds_cons (evd_strS (evd_var d0)) eds_nil) (by simp)) rfl
    | op w a b => simp [Sm.enc, isT, tyN] at hT
    | ite a b c => simp [Sm.enc, isT, tyN] at hT
  | true =>
    refine s_nay (et_not (a := true) (et_is (et_b (ev_isi (evd_var d0) (by decide))) hT)) x fun H1 e1 => ?_
    obtain ⟨w, hw⟩ := s.enc_parts hT
    have d0' : Dt K H0 v0 (.tuple (.str w :: s.parts.map Sm.enc)) := hw ▸ d0
    have hws := Sm.words_parts hw
    have hlen := words_few h6
    obtain ⟨m, rfl⟩ : ∃ m, n = m + 1 := by
      cases n with
      | zero =>
        have hd0 : s.depth = 0 := by omega
        cases s <;> first | (simp [Sm.depth] at hd0; done) | (simp [Sm.enc, isT, tyN] at hT; done)
      | succ m => exact ⟨m, rfl⟩
    have tlen : ∀ i, ((s.parts.take i).flatMap Sm.words).length + 1 ≤ 1093 := fun i => by
      have := flat_take_len Sm.words s.parts i
      rw [hws, List.length_cons] at hlen
      omega
    refine s_asgD (K := K) (i := 1) (d := .list [.str w]) (evd_lst (eds_cons (evd_ixT (evd_var d0') evd_int (atI_0 _ _)) eds_nil) (by simp)) (x.trans e1) fun v1 H2 B2 g2 d2 => ?_
    dsimp only
    have g2 := g2.after e1
    have D0 := dp_ex g2.xd _ _ d0'
    refine s_forT (K := K) (A := B2) (evd_is (evd_slT (evd_var D0) (eo_i (K := K) evd_int) eo_none) (congrArg PyData.tuple (cut_tail _ _))) g2.d2 fun H4 Hd gr => ?_
    refine ⟨fun i σ' H' => ∃ B v1 o, σ' = [some v0, some v1, o] ∧ Gr H0 H H' B ∧ Ex Hd B ∧ Dt K B v1 (.list (.str w :: ((s.parts.take i).flatMap Sm.words).map PyData.str)), ⟨Hd, v1, none, rfl, g2.seq gr, Ex.refl _, dp_ex gr.xd _ _ d2⟩, fun i σ' H' ⟨B, _, _, _, g, xx, _⟩ => xx.trans g.d2, ?_, ?_⟩
    · rintro i v d σ' H' hi hv ⟨B, v1, o, rfl, g, xx, dv⟩
      rw [List.getElem?_map] at hi
      obtain ⟨t, ht, rfl⟩ := Option.map_eq_some_iff.mp hi
      have hm : t ∈ s.parts := List.mem_of_getElem? ht
      have hpd2 := Sm.parts_depth hm
      have tl1 := tlen (i + 1)
      refine s_asgD (K := K) (i := 1) (evd_addL (evd_var dv) (evd_call (eds_cons (evd_var (dp_ex xx _ _ hv)) eds_nil) ⟨t, rfl, Sm.parts_good hg hm, by omega, by omega, rfl⟩) ?_) g.d2 fun v5 H5 B5 g5 d5 => ⟨B5, v5, _, rfl, g.seq g5, xx.trans g5.xd, ?_⟩
      · rw [take_flat Sm.words ht, List.length_append] at tl1
        rw [List.length_cons, List.length_map, List.length_map]
        omega
      · rw [take_flat Sm.words ht, List.map_append]
        exact d5
    · rintro σ' H' ⟨B, v1, o, rfl, g, xx, dv⟩
      refine (k.seq g).ret g.d2 (evd_var dv) ?_
      rw [List.length_map, List.take_length, hws]
      rfl
theorem all_law_words {f : Addr} {fd : FuncData} (F : FnP K "_law_words" "_law_words" s_law_words f fd) (g : mg "_law_words" = some (.ref f)) (T : Tx mg)  : ∀ n : Nat, HasF P w K mg base CX0 (n + 2) "_law_words" ["some"] (spD K (F_words n)) f fd
  | 0 => step_law_words F g T 0 (h__law_words := has_never F g (F.bindsN fun _ _ _ _ _ _ us hl => match us, hl with | [_], _ => rfl) _ fun _ _ z => z) 
  | n + 1 => step_law_words F g T (n + 1) (h__law_words := (all_law_words F g T  n).has) 
theorem ok_law_words {f : Addr} {fd : FuncData} (F : FnP K "_law_words" "_law_words" s_law_words f fd) (g : mg "_law_words" = some (.ref f)) (T : Tx mg)  : Has P w K mg base CX0 8 "_law_words" ["some"] (spD K (F_words 6)) :=
  (all_law_words F g T  6).has
theorem sc_law : FnScope ["script", "source", "text", "at", "sign", "way", "other", "found", "odd", "caught"] ["script"] (defScope s_law) := ⟨rfl, rfl, rfl, by decide +kernel, rfl, by decide +kernel, by decide +kernel⟩
theorem ok_law {f : Addr} {fd : FuncData}  (F : FnP K "law" "law" s_law f fd) (g : mg "law" = some (.ref f)) (T : Tx mg) {c_BadSource : Addr} {c_BadText : Addr} (x_BadText : ExcF K mg "BadText" c_BadText) (e_BadText_BadText : PySem.W.exmOne K (.ref c_BadText) (.ref c_BadText) = some true) (h_read : Has P w K mg base (L2.CX P w) 12 "read" ["text"] (spDX K c_BadText F_read)) (h__law_cell : Has P w K mg base CX0 1 "_law_cell" ["script", "k"] (spLcell K)) (h__law_text : Has P w K mg base CX0 9 "_law_text" ["source"] (spD K F_textof)) (h__law_is_source : Has P w K mg base CX0 9 "_law_is_source" ["thing"] (spD K F_ksource)) (h__law_mix : Has P w K mg base CX0 1 "_law_mix" ["cell", "prime", "many"] (spD K F_mix)) (h_shown : Has P w K mg base (L2.CX P w) 12 "shown" ["source"] (spDX K c_BadSource F_shown)) (h__law_source : Has P w K mg base CX0 9 "_law_source" ["seed"] (spD K F_lsource)) (h__law_seed : Has P w K mg base CX0 1 "_law_seed" ["seed", "k"] (spD K F_seed)) : HasF P w K mg base CX0 20 "law" ["script"] (spLaw K) f fd := by
  have nd := (sc_law).nd
  refine hasF_p F g (F.bindsN fun _ _ _ _ _ _ us hl => match us, hl with | [_], _ => rfl) sc_law (by rintro _ _ _ _ ⟨_, _, rfl, _⟩; rfl) (fun cdv A outer s H vs Q E hr h => ?_)
  obtain ⟨a, ns, rfl, hS, hl, k⟩ := h
  refine ⟨_, (pss_cons (ps_set (i := 1) nd rfl (Or.inl rfl) (pe_has h__law_source hr (by omega) rfl pass0 (pa_cons (pe_has h__law_seed hr (by omega) rfl pass0 (pa_cons (pe_has h__law_cell hr (by omega) rfl pass0 (pa_cons (pv 0) (pa_cons pe_int pa_nil))) (pa_cons pe_int pa_nil))) pa_nil)))
      (pss_cons (ps_set (i := 2) nd rfl (Or.inl rfl) (pe_has h__law_text hr (by omega) rfl pass0 (pa_cons (pv 1) pa_nil)))
      (pss_cons (ps_if (PW.pt (pw_or (pt_cmpR (kNe (K := K) rfl hr.units) (pe_has h_shown hr (by omega) rfl passL (pa_cons (pv 1) pa_nil)) (pv 2) (nomark _)) (pw_or1 (pt_cmpR (kNe (K := K) rfl hr.units) (pe_has h_read hr (by omega) rfl passL (pa_cons (pv 2) pa_nil)) (pv 1) (nomark _))))) (pss_one (ps_ret pe_bl)) pss_nil)
      (pss_cons (ps_set (i := 3) nd rfl (Or.inl rfl) (pe_has h__law_mix hr (by omega) rfl pass0 (pa_cons (pe_has h__law_cell hr (by omega) rfl pass0 (pa_cons (pv 0) (pa_cons pe_int pa_nil))) (pa_cons pe_int (pa_cons (pe_op (kAdd (K := K) rfl) (pe_callB (kLen (K := K) rfl) rfl (T.free (by decide)) boot_len (pa_cons (pv 2) pa_nil)) pe_int) pa_nil)))))
      (pss_cons (ps_set (i := 4) nd rfl (Or.inl rfl) (pe_ix (kIx (K := K) rfl) (pe_lst (pa_cons pe_str (pa_cons pe_str (pa_cons pe_str (pa_cons pe_str (pa_cons pe_str (pa_cons pe_str (pa_cons pe_str (pa_cons pe_str (pa_cons pe_str pa_nil)))))))))) (pe_op op_mod (pe_has h__law_cell hr (by omega) rfl pass0 (pa_cons (pv 0) (pa_cons pe_int pa_nil))) pe_int) (fun _ _ => rfl)))
      (pss_cons (ps_set (i := 5) nd rfl (Or.inl rfl) (pe_op op_mod (pe_has h__law_cell hr (by omega) rfl pass0 (pa_cons (pv 0) (pa_cons pe_int pa_nil))) pe_int))
      (pss_cons (ps_set (i := 6) nd rfl (Or.inl rfl) (pe_op (kAdd (K := K) rfl) (pe_op (kAdd (K := K) rfl) (pe_slice (kSl (K := K) rfl) (pv 2) po_none (po_some (pv 3))) (pe_ix (kIx (K := K) rfl) (pe_lst (pa_cons (pv 4) (pa_cons pe_str (pa_cons (pv 4) pa_nil)))) (pv 5) (fun _ _ => rfl))) (pe_slice (kSl (K := K) rfl) (pv 2) (po_some (pe_op (kAdd (K := K) rfl) (pv 3) (pe_ix (kIx (K := K) rfl) (pe_lst (pa_cons pe_int (pa_cons pe_int (pa_cons pe_int pa_nil)))) (pv 5) (fun _ _ => rfl)))) po_none)))
      (pss_cons (ps_set (i := 7) nd rfl (Or.inl rfl) pe_non)
      (pss_cons (ps_try_only rfl rfl ⟨rfl, by decide, Or.inl x_BadText.g⟩ takes0 (fun W pn xe tk po => (pss_one (ps_set (i := 7) nd rfl (Or.inl rfl) (pe_hasS h_read hr (by omega) rfl (fun σ => passAt tk σ) (pa_cons (pv 6) pa_nil))))) (fun _ _ _ _ _ _ _ => (pss_one (ps_set (i := 7) nd rfl (Or.inl rfl) pe_non))))
      (pss_cons (ps_if (PW.pt (pw_and (pt_cmpR op_notN (pv 7) pe_non (nomark _)) (pw_and1 (PW.pt (pw_or (pt_not (kTruth (K := K) rfl (pe_has h__law_is_source hr (by omega) rfl pass0 (pa_cons (pv 7) pa_nil)))) (pw_or1 (pt_cmpR (kNe (K := K) rfl hr.units) (pe_has h__law_text hr (by omega) rfl pass0 (pa_cons (pv 7) pa_nil)) (pv 6) (nomark _)))))))) (pss_one (ps_ret pe_bl)) pss_nil)
      (pss_cons (ps_set (i := 8) nd rfl (Or.inl rfl) (pe_lst (pa_cons pe_str (pa_cons pe_str (pa_cons pe_str (pa_cons pe_str (pa_cons pe_str (pa_cons pe_str (pa_cons pe_str (pa_cons pe_str (pa_cons pe_str pa_nil)))))))))))
      (pss_cons (ps_set (i := 8) nd rfl (Or.inl rfl) (pe_op (kAdd (K := K) rfl) (pv 8) (pe_lst (pa_cons pe_str (pa_cons pe_str (pa_cons pe_str (pa_cons pe_str (pa_cons pe_str (pa_cons (pe_op (kAdd (K := K) rfl) (pe_op (kAdd (K := K) rfl) (pe_op (kAdd (K := K) rfl) pe_str (pe_op op_mul7 pe_str pe_int)) (pe_op op_mul7 pe_str pe_int)) pe_str) pa_nil)))))))))
      (pss_cons (ps_set (i := 8) nd rfl (Or.inl rfl) (pe_op (kAdd (K := K) rfl) (pv 8) (pe_lst (pa_cons pe_non (pa_cons pe_int (pa_cons pe_str pa_nil))))))
      (pss_cons (ps_set (i := 9) nd rfl (Or.inl rfl) pe_bl)
      (pss_cons (ps_try_only rfl rfl ⟨rfl, by decide, Or.inl x_BadText.g⟩ takes0 (fun W pn xe tk po => (pss_one (ps_expr (pe_hasS h_read hr (by omega) rfl (fun σ => passAt tk σ) (pa_cons (pe_ix (kIx (K := K) rfl) (pv 8) (pe_op op_mod (pe_has h__law_cell hr (by omega) rfl pass0 (pa_cons (pv 0) (pa_cons pe_int pa_nil))) pe_int) (fun _ _ => rfl)) pa_nil))))) (fun _ _ _ _ _ _ _ => (pss_one (ps_set (i := 9) nd rfl (Or.inl rfl) pe_bl))))
      (pss_one (ps_ret (pv 9)))))))))))))))))), ?_⟩
  refine s_asgD (K := K) (H0 := H) (d := encS (lawSource (seedF (cellAt ns 0) 0))) (evd_call (eds_cons (evd_call (eds_cons (evd_cell (ev_var rfl) ev_c hS (by decide) hl) (eds_cons evd_int eds_nil)) ⟨_, _, rfl, rfl⟩) eds_nil) ⟨_, rfl, rfl⟩) (Ex.refl H) fun v1 H1 B1 g1 d1 => ?_
  have hg := lawSource_good (seedF (cellAt ns 0) 0)
  generalize lawSource (seedF (cellAt ns 0) 0) = src at *
  have D1 := dp_ex g1.d2 _ _ d1
  have S1 := ex_l g1.ex hS
  have tlow := text_low hg
  have okx : okT (textS src) := ⟨by have := tlow.1; omega, fun c hc => by have := tlow.2 c hc; omega⟩
  have shx := shapedS (okT_ok okx)
  have shs := src_shaped hg
  dsimp only
  refine s_asg (ev_str (K := K) (evd_call (eds_cons (evd_var D1) eds_nil) ⟨src, rfl, hg, rfl⟩)) fun H2 e2 => ?_
  have D2 := dp_ex e2 _ _ D1
  have S2 := ex_l e2 S1
  dsimp only
  refine s_skip (H0 := H2) (et_or (a := false) (b := false) (et_is (et_test (ev_ne (evd_callX (eds_cons (evd_var D2) eds_nil) ⟨src, rfl, hg, rfl⟩) (evd_var (.str _)) shx shx)) (eqv_slfT shx)) fun _ => et_is (et_test (ev_ne (evd_callX (eds_cons (evd_var (.str _)) eds_nil) (read_back hg)) (evd_var D2) shs shs)) (eqv_slfT shs)) (Ex.refl _) fun H3 e3 => ?_
  have S3 := ex_l e3 S2
  dsimp only
  obtain ⟨p, hp, hpl⟩ : ∃ p : Nat, mixF (cellAt ns 1) 9949 (((textS src).length : Int) + 1) = (p : Int) ∧ p ≤ (textS src).length := by
    have := mix_lt (c := cellAt ns 1) (p := 9949) (m := ((textS src).length : Int) + 1) (by omega)
    exact ⟨(mixF (cellAt ns 1) 9949 (((textS src).length : Int) + 1)).toNat, by omega, by omega⟩
  have tl5 := tlow.1
  refine s_asg (ev_int (K := K) (evd_is (evd_call (eds_cons (evd_cell (ev_var rfl) ev_c S3 (by decide) hl) (eds_cons evd_int (eds_cons (ev_addI (K := K) (evd_i (ev_lenS (evd_var (.str _)) (sz_of (by omega)))) evd_int) eds_nil))) ⟨_, _, _, rfl, by decide, by decide, by omega, rfl⟩) (congrArg PyData.int hp))) fun H4 e4 => ?_
  have S4 := ex_l e4 S3
  dsimp only
  have m9 := mod_lt10 (cellAt ns 2) 9 (by omega)
  have m3 := mod_lt10 (cellAt ns 3) 3 (by omega)
  obtain ⟨sg, hsg⟩ : ∃ sg, signsS[(cellAt ns 2 % 9).toNat]? = some sg := ⟨_, List.getElem?_eq_getElem (by show _ < 9; omega)⟩
  have msg : sg ∈ ("" : Str) :: signsS := List.mem_cons_of_mem _ (List.mem_of_getElem? hsg)
  refine s_asg (ev_str (K := K) (evd_ixL (ds := signsS.map PyData.str) ?_ (evd_i (ev_I (K := K) (C := fun _ j => 0 < j) (g := fun i j => .int (i % j)) (evd_cell (ev_var rfl) ev_c S4 (by decide) hl) evd_int (by decide))) (by
    have e : cellAt ns 2 % 9 = (((cellAt ns 2 % 9).toNat : Nat) : Int) := by omega
    rw [e]
    exact atI_strs hsg))) fun H5 e5 => ?_
  · refine evd_lst (ds := signsS.map PyData.str) ?_ (by decide)
    repeat' (first | exact eds_nil | refine eds_cons ?_ ?_ | exact evd_int | exact evd_str | exact evd_non)
  have S5 := ex_l e5 S4
  dsimp only
  obtain ⟨wy, hwy, hw3⟩ : ∃ wy : Nat, cellAt ns 3 % 3 = (wy : Int) ∧ wy < 3 := ⟨(cellAt ns 3 % 3).toNat, by omega, by omega⟩
  refine s_asg (ev_int (K := K) (evd_is (evd_i (ev_I (K := K) (C := fun _ j => 0 < j) (g := fun i j => .int (i % j)) (evd_cell (ev_var rfl) ev_c S5 (by decide) hl) evd_int (by decide))) (congrArg PyData.int hwy))) fun H6 e6 => ?_
  have S6 := ex_l e6 S5
  dsimp only
  obtain ⟨md, hmd, mmd⟩ : ∃ md : Str, ([sg, "", sg] : List Str)[wy]? = some md ∧ md ∈ ("" : Str) :: signsS := by
    rcases (by omega : wy = 0 ∨ wy = 1 ∨ wy = 2) with rfl | rfl | rfl
    · exact ⟨sg, rfl, msg⟩
    · exact ⟨"", rfl, List.mem_cons_self ..⟩
    · exact ⟨sg, rfl, msg⟩
  obtain ⟨kd, hkd⟩ : ∃ kd : Nat, ([0, 1, 1] : List Nat)[wy]? = some kd := ⟨_, List.getElem?_eq_getElem (by show wy < 3; omega)⟩
  obtain ⟨oko, l1, l2⟩ := other_ok (t := textS src) (m := md) (p := p) kd tlow hpl (sign_ok mmd)
  refine s_asg (ev_str (K := K) (x := otherS (textS src) md p kd) (evd_addS (evd_addS (evd_slS (evd_var (.str _)) eo_none (eo_i (K := K) (evd_var (.int _))) (by omega)) (evd_ixL (ds := ([sg, "", sg] : List Str).map PyData.str) (evd_lst (eds_cons (evd_var (.str _)) (eds_cons evd_str (eds_cons (evd_var (.str _)) eds_nil))) (by show 3 ≤ 100000; decide)) (evd_var (.int _)) (atI_strs hmd)) l1) (evd_slS (evd_var (.str _)) (eo_i (K := K) (evd_is (ev_addI (K := K) (evd_var (.int _)) (evd_ixL (d := .int (kd : Int)) (ds := ([0, 1, 1] : List Nat).map fun n : Nat => PyData.int (n : Int)) (evd_lst (eds_cons evd_int (eds_cons evd_int (eds_cons evd_int eds_nil))) (by show 3 ≤ 100000; decide)) (evd_var (.int _)) (by
    rcases (by omega : wy = 0 ∨ wy = 1 ∨ wy = 2) with rfl | rfl | rfl <;> (cases hkd; rfl)))) (congrArg PyData.int (Int.natCast_add p kd).symm))) eo_none (by omega)) l2)) fun H7 e7 => ?_
  have S7 := ex_l e7 S6
  dsimp only
  generalize otherS (textS src) md p kd = ot at *
  have sho := shapedS (okT_ok oko)
  refine s_asg ev_c fun H8 e8 => ?_
  have S8 := ex_l e8 S7
  dsimp only
  obtain ⟨o, hF, ho⟩ := read_ex oko
  refine s_seqT (fun σ' H' => Ex H8 H' ∧ ∃ v7, σ' = [some (.ref a), some v1, some (.str (textS src)), some (.int (p : Int)), some (.str sg), some (.int (wy : Int)), some (.str ot), some v7, none, none] ∧ (v7 = .non ∨ ∃ d, o = some d ∧ Dt K H' v7 d)) ?fin fun fin => ?_
  rotate_left
  · refine s_setXT (K := K) (H0 := H8) (cB := c_BadText) (i := 7) (eds_cons (evd_var (.str ot)) eds_nil) (Ex.refl _) hF (fun d e v H9 B9 g9 d9 => ?_) fun e H9 e9 => ?_
    · exact fin _ _ ⟨g9.ex, v, rfl, .inr ⟨d, e, dp_ex g9.d2 _ _ d9⟩⟩
    · refine ⟨true, e_BadText_BadText, fun _ b hb => ?_, fun z => nomatch z⟩
      exact s_asg ev_c fun H10 e10 => fin _ _ ⟨e9.trans e10, .non, rfl, .inl rfl⟩
  rintro _ H9 ⟨e9, v7, rfl, hv7⟩
  have S9 := ex_l e9 S8
  refine s_seqT (fun σ' H' => Ex H9 H' ∧ σ' = [some (.ref a), some v1, some (.str (textS src)), some (.int (p : Int)), some (.str sg), some (.int (wy : Int)), some (.str ot), some v7, none, none]) ?fin2 fun fin2 => ?_
  rotate_left
  · rcases hv7 with rfl | ⟨d, hd, dv⟩
    · exact s_skip (H0 := H9) (et_and (a := false) (b := false) (et_is (et_test (ev_notNT (K := K) (evd_var .non))) rfl) fun z => nomatch z) (Ex.refl _) fun H10 e10 => fin2 _ _ ⟨e10, rfl⟩
    · obtain ⟨sc, rfl, hgs, hts⟩ := ho d hd
      have shs2 := src_shaped hgs
      obtain ⟨q1, q2⟩ := text_low hgs
      refine s_skip (H0 := H9) (et_and (a := true) (b := false) (et_is (et_test (ev_notNT (K := K) (evd_var dv))) rfl) fun _ => et_or (a := false) (b := false) (et_not (a := true) (et_b (ev_bl (evd_is (evd_call (eds_cons (evd_var dv) eds_nil) ⟨sc.map Rw.enc, _, rfl, .inl rfl, ok_src sc hgs, Nat.le_trans (src_depth hgs) (by decide), fun r hr => ?_, rfl⟩) (congrArg PyData.bool (isSource_enc sc hgs)))))) fun _ => et_is (et_test (ev_ne (evd_is (evd_call (eds_cons (evd_var dv) eds_nil) ⟨sc, rfl, hgs, rfl⟩) (congrArg PyData.str hts)) (evd_var (.str ot)) sho sho)) (eqv_slfT sho)) (Ex.refl _) fun H10 e10 => fin2 _ _ ⟨e10, rfl⟩
      obtain ⟨r, hr', rfl⟩ := List.mem_map.mp hr
      exact head_row (good_row hgs hr')
  rintro _ H10 ⟨e10, rfl⟩
  have S10 := ex_l e10 S9
  refine s_asgD (K := K) (H0 := H10) (d := .list (oddA.map PyData.str)) ?o1 (Ex.refl _) fun v8 H11 B11 g11 d11 => ?_
  case o1 =>
    refine evd_lst (ds := oddA.map PyData.str) ?_ (by decide)
    repeat' (first | exact eds_nil | refine eds_cons ?_ ?_ | exact evd_int | exact evd_str | exact evd_non)
  have D11 := dp_ex g11.d2 _ _ d11
  have S11 := ex_l g11.ex S10
  dsimp only
  refine s_asgD (K := K) (H0 := H11) (d := .list (oddA.map PyData.str ++ oddB.map PyData.str)) (evd_addL (evd_var D11) ?o2 (by decide)) (Ex.refl _) fun v9 H12 B12 g12 d12 => ?_
  case o2 =>
    refine evd_lst (ds := oddB.map PyData.str) ?_ (by decide)
    refine eds_cons evd_str (eds_cons evd_str (eds_cons evd_str (eds_cons evd_str (eds_cons evd_str (eds_cons ?_ eds_nil)))))
    exact evd_addS (evd_addS (evd_addS evd_str (evd_mul7 evd_str (by decide +kernel) (by decide +kernel)) (by decide +kernel)) (evd_mul7 evd_str (by decide +kernel) (by decide +kernel)) (by decide +kernel)) evd_str (by decide +kernel)
  have D12 := dp_ex g12.d2 _ _ d12
  have S12 := ex_l g12.ex S11
  dsimp only
  refine s_asgD (K := K) (H0 := H12) (d := .list oddT) (evd_addL (evd_var D12) ?o3 (by decide)) (Ex.refl _) fun v10 H13 B13 g13 d13 => ?_
  case o3 =>
    refine evd_lst (ds := [.none, .int 7, .str "show -1"]) ?_ (by decide)
    repeat' (first | exact eds_nil | refine eds_cons ?_ ?_ | exact evd_int | exact evd_str | exact evd_non)
  have D13 := dp_ex g13.d2 _ _ d13
  have S13 := ex_l g13.ex S12
  dsimp only
  refine s_asg ev_c fun H14 e14 => ?_
  have S14 := ex_l e14 S13
  have D14 := dp_ex e14 _ _ D13
  dsimp only
  have m18 := mod_lt10 (cellAt ns 4) 18 (by omega)
  obtain ⟨od, hod⟩ : ∃ od, oddT[(cellAt ns 4 % 18).toNat]? = some od := ⟨_, List.getElem?_eq_getElem (by rw [odd_len18]; omega)⟩
  refine s_tryX (K := K) (H0 := H14) (cB := c_BadText) (ds := [od]) (eds_cons (evd_ixL (evd_var D14) (evd_i (ev_I (K := K) (C := fun _ j => 0 < j) (g := fun i j => .int (i % j)) (evd_cell (ev_var rfl) ev_c S14 (by decide) hl) evd_int (by decide))) (by
    have e : cellAt ns 4 % 18 = (((cellAt ns 4 % 18).toNat : Nat) : Int) := by omega
    rw [e]
    exact atI_nat hod)) eds_nil) (Ex.refl _) (odd_read (List.mem_of_getElem? hod)) fun H15 e15 => ?_
  refine ⟨true, e_BadText_BadText, fun _ b hb => ?_, fun z => nomatch z⟩
  refine s_asg ev_c fun H16 e16 => ?_
  dsimp only
  exact s_ret (ev_var rfl) fun H17 e17 => k H17
end
theorem facts {P : Program} {w : World} {K : PySem.W.Frag} {h : Heap} {mg : Str → Option Value} {f : Addr} (X : K.In h) (G : h.Ns mainGlobals mg) (hfa : mg ("law" : Str) = some (.ref f)) (c0 : He.SaysX faL fnL tabL [] exB w h K) :
    ∃ fd : FuncData, (∀ (s : Shared) (v : Value), BindsTo s fd ⟨[v], []⟩ [("script", v)]) ∧ ∀ base : Heap, K.In base → base.Ns mainGlobals mg → FnOk P w K mg base CX0 20 f fd ["script"] (LC.spLaw K) := by
  have c : He.SaysD faL fnL K := c0.t.d
  have cm : exB K = true := c0.more
  have T : LC.Tx mg := by
    refine ⟨fun {x} hx => ?_⟩
    simp only [LC.freeN, List.mem_cons, List.not_mem_nil, or_false] at hx
    rcases hx with rfl | rfl | rfl | rfl | rfl | rfl | rfl | rfl | rfl | rfl | rfl | rfl | rfl | rfl | rfl
    · exact He.free_ok X G (c.fact 38 (f := .free "len") rfl)
    · exact He.free_ok X G (c.fact 39 (f := .free "isinstance") rfl)
    · exact He.free_ok X G (c.fact 40 (f := .free "range") rfl)
    · exact He.free_ok X G (c.fact 41 (f := .free "tuple") rfl)
    · exact He.free_ok X G (c.fact 42 (f := .free "sorted") rfl)
    · exact He.free_ok X G (c.fact 43 (f := .free "set") rfl)
    · exact He.free_ok X G (c.fact 44 (f := .free "int") rfl)
    · exact He.free_ok X G (c.fact 45 (f := .free "str") rfl)
    · exact He.free_ok X G (c.fact 46 (f := .free "bool") rfl)
    · exact He.free_ok X G (c.fact 47 (f := .free "list") rfl)
    · exact He.free_ok X G (c.fact 48 (f := .free "min") rfl)
    · exact He.free_ok X G (c.fact 49 (f := .free "zip") rfl)
    · exact He.free_ok X G (c.fact 50 (f := .free "enumerate") rfl)
    · exact He.free_ok X G (c.fact 51 (f := .free "dict") rfl)
    · exact He.free_ok X G (c.fact 52 (f := .free "ValueError") rfl)
  have m___name__ := He.str_ok X G (c.fact 30 (f := .str "__name__" "law_leancells_k04_texts") rfl)
  have m_SMALL := He.str_ok X G (c.fact 31 (f := .str "SMALL" "abcdefghijklmnopqrstuvwxyz") rfl)
  have m_FIGURES := He.str_ok X G (c.fact 32 (f := .str "FIGURES" "0123456789") rfl)
  have m_ROUND := He.int_ok X G (c.fact 33 (f := .int "ROUND" 10000) rfl)
  have m_MOST_ROWS := He.int_ok X G (c.fact 34 (f := .int "MOST_ROWS" 8) rfl)
  have m_MOST_DEEP := He.int_ok X G (c.fact 35 (f := .int "MOST_DEEP" 6) rfl)
  have m_WORDS := He.glo_ok X G (c.fact 36 (f := .glo "WORDS") rfl)
  have m_BARRED := He.glo_ok X G (c.fact 37 (f := .glo "BARRED") rfl)
  have t_WORDS : He.tupB K "WORDS" (LC.wordsS.map He.Dv.str) = true := by
    have cm := cm
    unfold exB at cm
    simp only [Bool.and_eq_true] at cm
    exact cm.1.1
  have b_WORDS := LC.tup_strs LC.wordsS t_WORDS
  have t_BARRED : He.tupB K "BARRED" (LC.barredS.map He.Dv.str) = true := by
    have cm := cm
    unfold exB at cm
    simp only [Bool.and_eq_true] at cm
    exact cm.1.2
  have b_BARRED := LC.tup_strs LC.barredS t_BARRED
  obtain ⟨xq_LeanError, xk_LeanError, xb_LeanError, xt_LeanError⟩ := He.exc_ok (c.fact 25 (f := .exc "LeanError") rfl)
  have x_LeanError : LC.ExcF K mg "LeanError" (He.ga K "LeanError") := ⟨xq_LeanError, He.glo_ok X G (c.fact 24 (f := .glo "LeanError") rfl), xk_LeanError, xb_LeanError, xt_LeanError⟩
  obtain ⟨xq_BadSource, xk_BadSource, xb_BadSource, xt_BadSource⟩ := He.exc_ok (c.fact 27 (f := .exc "BadSource") rfl)
  have x_BadSource : LC.ExcF K mg "BadSource" (He.ga K "BadSource") := ⟨xq_BadSource, He.glo_ok X G (c.fact 26 (f := .glo "BadSource") rfl), xk_BadSource, xb_BadSource, xt_BadSource⟩
  obtain ⟨xq_BadText, xk_BadText, xb_BadText, xt_BadText⟩ := He.exc_ok (c.fact 29 (f := .exc "BadText") rfl)
  have x_BadText : LC.ExcF K mg "BadText" (He.ga K "BadText") := ⟨xq_BadText, He.glo_ok X G (c.fact 28 (f := .glo "BadText") rfl), xk_BadText, xb_BadText, xt_BadText⟩
  obtain ⟨fd_is_within, F_is_within⟩ := c.def_ 0 (d := d_is_within) rfl
  have g_is_within := He.glo_ok X G (c.fact 0 (f := .glo "is_within") rfl)
  obtain ⟨fd_is_name, F_is_name⟩ := c.def_ 1 (d := d_is_name) rfl
  have g_is_name := He.glo_ok X G (c.fact 1 (f := .glo "is_name") rfl)
  obtain ⟨fd_is_sum, F_is_sum⟩ := c.def_ 2 (d := d_is_sum) rfl
  have g_is_sum := He.glo_ok X G (c.fact 2 (f := .glo "is_sum") rfl)
  obtain ⟨fd_is_row, F_is_row⟩ := c.def_ 3 (d := d_is_row) rfl
  have g_is_row := He.glo_ok X G (c.fact 3 (f := .glo "is_row") rfl)
  obtain ⟨fd_is_source, F_is_source⟩ := c.def_ 4 (d := d_is_source) rfl
  have g_is_source := He.glo_ok X G (c.fact 4 (f := .glo "is_source") rfl)
  obtain ⟨fd_look, F_look⟩ := c.def_ 5 (d := d_look) rfl
  have g_look := He.glo_ok X G (c.fact 5 (f := .glo "look") rfl)
  obtain ⟨fd_words_of, F_words_of⟩ := c.def_ 6 (d := d_words_of) rfl
  have g_words_of := He.glo_ok X G (c.fact 6 (f := .glo "words_of") rfl)
  obtain ⟨fd_text_of, F_text_of⟩ := c.def_ 7 (d := d_text_of) rfl
  have g_text_of := He.glo_ok X G (c.fact 7 (f := .glo "text_of") rfl)
  obtain ⟨fd_shown, F_shown⟩ := c.def_ 8 (d := d_shown) rfl
  have g_shown := He.glo_ok X G (c.fact 8 (f := .glo "shown") rfl)
  obtain ⟨fd_sum_at, F_sum_at⟩ := c.def_ 9 (d := d_sum_at) rfl
  have g_sum_at := He.glo_ok X G (c.fact 9 (f := .glo "sum_at") rfl)
  obtain ⟨fd_row_of, F_row_of⟩ := c.def_ 10 (d := d_row_of) rfl
  have g_row_of := He.glo_ok X G (c.fact 10 (f := .glo "row_of") rfl)
  obtain ⟨fd_read, F_read⟩ := c.def_ 11 (d := d_read) rfl
  have g_read := He.glo_ok X G (c.fact 11 (f := .glo "read") rfl)
  obtain ⟨fd_law_cell, F_law_cell⟩ := c.def_ 12 (d := d_law_cell) rfl
  have g_law_cell := He.glo_ok X G (c.fact 12 (f := .glo "_law_cell") rfl)
  obtain ⟨fd_law_mix, F_law_mix⟩ := c.def_ 13 (d := d_law_mix) rfl
  have g_law_mix := He.glo_ok X G (c.fact 13 (f := .glo "_law_mix") rfl)
  obtain ⟨fd_law_seed, F_law_seed⟩ := c.def_ 14 (d := d_law_seed) rfl
  have g_law_seed := He.glo_ok X G (c.fact 14 (f := .glo "_law_seed") rfl)
  obtain ⟨fd_law_pick, F_law_pick⟩ := c.def_ 15 (d := d_law_pick) rfl
  have g_law_pick := He.glo_ok X G (c.fact 15 (f := .glo "_law_pick") rfl)
  obtain ⟨fd_law_sum, F_law_sum⟩ := c.def_ 16 (d := d_law_sum) rfl
  have g_law_sum := He.glo_ok X G (c.fact 16 (f := .glo "_law_sum") rfl)
  obtain ⟨fd_law_source, F_law_source⟩ := c.def_ 17 (d := d_law_source) rfl
  have g_law_source := He.glo_ok X G (c.fact 17 (f := .glo "_law_source") rfl)
  obtain ⟨fd_law_is_source, F_law_is_source⟩ := c.def_ 18 (d := d_law_is_source) rfl
  have g_law_is_source := He.glo_ok X G (c.fact 18 (f := .glo "_law_is_source") rfl)
  obtain ⟨fd_law_is_name, F_law_is_name⟩ := c.def_ 19 (d := d_law_is_name) rfl
  have g_law_is_name := He.glo_ok X G (c.fact 19 (f := .glo "_law_is_name") rfl)
  obtain ⟨fd_law_is_sum, F_law_is_sum⟩ := c.def_ 20 (d := d_law_is_sum) rfl
  have g_law_is_sum := He.glo_ok X G (c.fact 20 (f := .glo "_law_is_sum") rfl)
  obtain ⟨fd_law_text, F_law_text⟩ := c.def_ 21 (d := d_law_text) rfl
  have g_law_text := He.glo_ok X G (c.fact 21 (f := .glo "_law_text") rfl)
  obtain ⟨fd_law_words, F_law_words⟩ := c.def_ 22 (d := d_law_words) rfl
  have g_law_words := He.glo_ok X G (c.fact 22 (f := .glo "_law_words") rfl)
  obtain ⟨fd_law, F_law⟩ := c.def_ 23 (d := d_law) rfl
  have g_law := He.glo_ok X G (c.fact 23 (f := .glo "law") rfl)
  have e := hfa.symm.trans g_law
  cases e
  have b := FunD.bindsA (ps := ["script"]) F_law fun _ _ _ _ _ _ us hl => match us, hl with | [_], _ => rfl
  refine ⟨fd_law, fun s v => b s [v] rfl, fun base _ _ => ?_⟩
  have h_is_within := ok_is_within (P := P) (w := w) (base := base)   F_is_within g_is_within T 
  have h_is_name := ok_is_name (P := P) (w := w) (base := base)   F_is_name g_is_name T (m_SMALL := m_SMALL) (m_BARRED := m_BARRED) (b_BARRED := b_BARRED)
  have h_is_sum := ok_is_sum (P := P) (w := w) (base := base)   F_is_sum g_is_sum T (m_WORDS := m_WORDS) (b_WORDS := b_WORDS) (h_is_within := h_is_within) (m_ROUND := m_ROUND) (h_is_name := h_is_name)
  have h_is_row := ok_is_row (P := P) (w := w) (base := base)   F_is_row g_is_row T (h_is_sum := h_is_sum) (m_MOST_DEEP := m_MOST_DEEP) (h_is_name := h_is_name)
  have h_is_source := ok_is_source (P := P) (w := w) (base := base)   F_is_source g_is_source T (h_is_row := h_is_row) (m_MOST_ROWS := m_MOST_ROWS)
  have h_look := ok_look (P := P) (w := w) (base := base)  (c_BadSource := He.ga K "BadSource") F_look g_look T (h_is_source := h_is_source) (x_BadSource := x_BadSource)
  have h_words_of := ok_words_of (P := P) (w := w) (base := base)   F_words_of g_words_of T 
  have h_text_of := ok_text_of (P := P) (w := w) (base := base)   F_text_of g_text_of T (h_words_of := h_words_of)
  have h_shown := ok_shown (P := P) (w := w) (base := base)  (c_BadSource := He.ga K "BadSource") F_shown g_shown T (h_text_of := h_text_of) (h_look := h_look)
  have h_sum_at0 : ∀ n : Nat, LC.Has P w K mg base (L2.CX P w) (n + 2) "sum_at" ["words", "at", "deep"] (LC.spDX K (He.ga K "BadText") (LC.F_sumat n)) := by
    intro n
    induction n with
    | zero => exact ok_sum_at (P := P) (w := w) (base := base) (mg := mg) (m_FIGURES := m_FIGURES) (m_WORDS := m_WORDS) (b_WORDS := b_WORDS) (h_sum_at := (LC.has_nevT (x := "sum_at") (q := "sum_at") (st := s_sum_at) F_sum_at g_sum_at (F_sum_at.bindsN fun _ _ _ _ _ _ us hl => match us, hl with | [_, _, _], _ => rfl) LC.never_sumat)) (x_BadText := x_BadText) (F := F_sum_at) (g := g_sum_at) (T := T)
    | succ n ih => exact ok_sum_at (P := P) (w := w) (base := base) (mg := mg) (m_FIGURES := m_FIGURES) (m_WORDS := m_WORDS) (b_WORDS := b_WORDS) (h_sum_at := ih) (x_BadText := x_BadText) (F := F_sum_at) (g := g_sum_at) (T := T)
  have h_sum_at := h_sum_at0 7
  have h_row_of := ok_row_of (P := P) (w := w) (base := base)  (c_BadText := He.ga K "BadText") F_row_of g_row_of T (x_BadText := x_BadText) (h_sum_at := h_sum_at) (m_MOST_DEEP := m_MOST_DEEP)
  have h_read := ok_read (P := P) (w := w) (base := base)  (c_BadText := He.ga K "BadText") F_read g_read T (h_text_of := h_text_of) (h_is_source := h_is_source) (x_BadText := x_BadText) (h_row_of := h_row_of)
  have h_law_cell := ok_law_cell (P := P) (w := w) (base := base)   F_law_cell g_law_cell T 
  have h_law_mix := ok_law_mix (P := P) (w := w) (base := base)   F_law_mix g_law_mix T 
  have h_law_seed := ok_law_seed (P := P) (w := w) (base := base)   F_law_seed g_law_seed T 
  have h_law_pick := ok_law_pick (P := P) (w := w) (base := base)   F_law_pick g_law_pick T 
  have h_law_sum := ok_law_sum (P := P) (w := w) (base := base)   F_law_sum g_law_sum T (h__law_seed := h_law_seed) (h__law_pick := h_law_pick)
  have h_law_source := ok_law_source (P := P) (w := w) (base := base)   F_law_source g_law_source T (h__law_pick := h_law_pick) (h__law_sum := h_law_sum) (h__law_seed := h_law_seed)
  have h_law_is_name := ok_law_is_name (P := P) (w := w) (base := base)   F_law_is_name g_law_is_name T 
  have h_law_is_sum := ok_law_is_sum (P := P) (w := w) (base := base)   F_law_is_sum g_law_is_sum T (h__law_is_name := h_law_is_name)
  have h_law_is_source := ok_law_is_source (P := P) (w := w) (base := base)   F_law_is_source g_law_is_source T (h__law_is_name := h_law_is_name) (h__law_is_sum := h_law_is_sum)
  have h_law_words := ok_law_words (P := P) (w := w) (base := base)   F_law_words g_law_words T 
  have h_law_text := ok_law_text (P := P) (w := w) (base := base)   F_law_text g_law_text T (h__law_words := h_law_words)
  exact (ok_law  F_law g_law T (x_BadText := x_BadText) (e_BadText_BadText := He.exm_ok (c.fact 53 (f := .exm "BadText" "BadText" true) rfl)) (h_read := h_read) (h__law_cell := h_law_cell) (h__law_text := h_law_text) (h__law_is_source := h_law_is_source) (h__law_mix := h_law_mix) (h_shown := h_shown) (h__law_source := h_law_source) (h__law_seed := h_law_seed)).1
end K04
open PySem PySem.W PySem.Calls PyProof.Rows
theorem PySem.Challenge.cw_leancells_k04_texts_holds : PySem.Challenge.rw_leancells_k04_texts.Holds := by
  w_on; o_law
  refine HandSHeadRun.head_any (r := OpenLaw.row PySem.Challenge.rw_leancells_k04_texts) (q := view (OpenLaw.row PySem.Challenge.rw_leancells_k04_texts).prog [36]) (H := K04.hk) (ob := K04.ob) (M := 3000) (loose := K04.looseL) (d := HandSHeadRun.topDef (OpenLaw.row PySem.Challenge.rw_leancells_k04_texts).prog 36) (kwd := []) K04.ob_eq
    (by kernel_rfl) (fun s => by kernel_rfl) K04.run (by kernel_rfl) (by kernel_rfl) (by kernel_rfl) (by rfl) (by first | assumption | decide +kernel) (by decide +kernel) ⟨rfl, rfl, rfl, rfl, rfl, by decide +kernel⟩ ?hw ?hc
  case hw => w_witness2
  case hc =>
    refine L2.walk_ofE (l := PySem.Challenge.rw_leancells_k04_texts) (n := 63) (k := 20) (x := "script") (CX := L2.CX0) rfl (by decide) (by kernel_rfl) ⟨rfl, by decide, by decide⟩ ?F (fun _ _ _ _ z => z)
    intro w mg fa h Y G hmg0
    obtain ⟨K, KX, c⟩ := Y
    have hmg : mg ("law" : PySem.Str) = some (.ref fa) := by
      have e : (HandSHeadRun.topDef (OpenLaw.row PySem.Challenge.rw_leancells_k04_texts).prog 36).name = ("law" : PySem.Str) := by kernel_rfl
      rw [← e]
      exact hmg0
    obtain ⟨fd, hb, hF⟩ := K04.facts (P := (PySem.Challenge.rw_leancells_k04_texts).prog) (w := w) KX G hmg c
    exact ⟨K, fd, LC.spLaw K, KX, hb, fun H a ns hl _ hS => ⟨a, ns, rfl, hS, hl, fun _ => rfl⟩, hF⟩
