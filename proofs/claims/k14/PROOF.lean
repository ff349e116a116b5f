import PyProof.Rows.All
import Wide.All
import OpenK.AllK
import Wide.FinOn
import KE.KStateDown
import Lean
import HandS.Base
import HandS.Call
import HandS.List
import HandS.Comp
import HandS.Ends
import HandS.Dict
import HandS.Iter
import HandS.Text
import HandS.Exc
import HandS.Words
import HandS.WordsList
import HandS.WordsExc
import HandS.WordsDict
import HandS.Defaults
import HandS.More
import HandS.Flow
import HandS.Style
import HandS.IsInst
import HandS.ExcOwn
import HandS.Evl
import HandS.TupAny
import HandS.TupMul
import HandS.Set
import HandS.TupSets
import HandS.SetFor
import HandS.Head0
import HandS.Head1
import HandS.Head2
import HandS.HeadEnd
import HandS.HeadHook1
import HandS.HeadHook2
import HandS.HeadHook3
import HandS.HeadHook4
import HandS.TryOnly
import HandS.Lambda
import PySem.Challenge.RW_leancells_k14_hands
set_option Elab.async false
set_option linter.all false
set_option maxRecDepth 100000
set_option maxHeartbeats 8000000
namespace LC
open PySem L2 Evl
abbrev Frag := PySem.W.Frag
/-! ### data in the heap: lists of the program's own, tuples of any -/
mutual
inductive Dt (K : Frag) (H : Hp) : V → PyData → Prop
  | non : Dt K H .non .none
  | bl (b : Bool) : Dt K H (.bl b) (.bool b)
  | int (i : Int) : Dt K H (.int i) (.int i)
  | str (x : Str) : Dt K H (.str x) (.str x)
  | lst {a : Addr} {xs : List V} {ds : List PyData} : H a = some (.lst xs) → DtAll K H xs ds → Dt K H (.ref a) (.list ds)
  | tup {a : Addr} {xs : List V} {ds : List PyData} : SqT K H a xs → DtAll K H xs ds → Dt K H (.ref a) (.tuple ds)
inductive DtAll (K : Frag) (H : Hp) : List V → List PyData → Prop
  | nil : DtAll K H [] []
  | cons {v : V} {vs : List V} {d : PyData} {ds : List PyData} : Dt K H v d → DtAll K H vs ds → DtAll K H (v :: vs) (d :: ds)
end
mutual
theorem dt_dp {K : Frag} {H : Hp} : ∀ (d : PyData) (v : V), Dt K H v d → Dp K H v d
  | .none, _, h => by cases h; exact .non
  | .bool b, _, h => by cases h; exact .bl b
  | .int i, _, h => by cases h; exact .int i
  | .str x, _, h => by cases h; exact .str x
  | .list ds, _, h => by
    cases h with
    | lst hs ha => exact .lst (sq_of hs) (dtAll_dp ds _ ha)
  | .tuple ds, _, h => by
    cases h with
    | tup hs ha => exact .tup hs (dtAll_dp ds _ ha)
  | .dict _, _, h => by cases h
theorem dtAll_dp {K : Frag} {H : Hp} : ∀ (ds : List PyData) (vs : List V), DtAll K H vs ds → DpAll K H vs ds
  | [], _, h => by cases h; exact .nil
  | d :: ds, _, h => by
    cases h with
    | cons h1 h2 => exact .cons (dt_dp d _ h1) (dtAll_dp ds _ h2)
end
/-! ### data stay where the heap only grows -/
mutual
theorem dp_ex {K : Frag} {H H' : Hp} (e : Ex H H') : ∀ (d : PyData) (v : V), Dt K H v d → Dt K H' v d
  | .none, _, h => by cases h; exact .non
  | .bool b, _, h => by cases h; exact .bl b
  | .int i, _, h => by cases h; exact .int i
  | .str x, _, h => by cases h; exact .str x
  | .list ds, _, h => by
    cases h with
    | lst hs ha => exact .lst (e _ _ hs) (dpAll_ex e ds _ ha)
  | .tuple ds, _, h => by
    cases h with
    | tup hs ha => exact .tup (ex_t e hs) (dpAll_ex e ds _ ha)
  | .dict _, _, h => by cases h
theorem dpAll_ex {K : Frag} {H H' : Hp} (e : Ex H H') : ∀ (ds : List PyData) (vs : List V), DtAll K H vs ds → DtAll K H' vs ds
  | [], _, h => by cases h; exact .nil
  | d :: ds, _, h => by
    cases h with
    | cons h1 h2 => exact .cons (dp_ex e d _ h1) (dpAll_ex e ds _ h2)
end
section
variable {K : Frag} {H H' : Hp}
theorem dpAll_len : ∀ {vs : List V} {ds : List PyData}, DtAll K H vs ds → vs.length = ds.length
  | _, _, .nil => rfl
  | _, _, .cons _ t => congrArg (· + 1) (dpAll_len t)
theorem dpAll_at : ∀ {vs : List V} {ds : List PyData} {i : Nat} {d : PyData}, DtAll K H vs ds → ds[i]? = some d → ∃ v, vs[i]? = some v ∧ Dt K H v d
  | _, _, _, _, .nil, e => by simp at e
  | _, _, 0, _, .cons h _, e => by simp at e; subst e; exact ⟨_, rfl, h⟩
  | _, _, i + 1, d, .cons _ t, e => by
    obtain ⟨v, h1, h2⟩ := dpAll_at (i := i) (d := d) t (by simpa using e)
    exact ⟨v, by simpa using h1, h2⟩
theorem dpAll_of : ∀ {vs : List V} {ds : List PyData} {i : Nat} {v : V}, DtAll K H vs ds → vs[i]? = some v → ∃ d, ds[i]? = some d ∧ Dt K H v d
  | _, _, _, _, .nil, e => by simp at e
  | _, _, 0, _, .cons h _, e => by simp at e; subst e; exact ⟨_, rfl, h⟩
  | _, _, i + 1, d, .cons _ t, e => by
    obtain ⟨v, h1, h2⟩ := dpAll_of (i := i) t (by simpa using e)
    exact ⟨v, by simpa using h1, h2⟩
theorem dpAll_app : ∀ {vs ws : List V} {ds es : List PyData}, DtAll K H vs ds → DtAll K H ws es → DtAll K H (vs ++ ws) (ds ++ es)
  | _, _, _, _, .nil, h => h
  | _, _, _, _, .cons a t, h => .cons a (dpAll_app t h)
theorem dpAll_drop : ∀ {vs : List V} {ds : List PyData} (n : Nat), DtAll K H vs ds → DtAll K H (vs.drop n) (ds.drop n)
  | _, _, 0, h => h
  | _, _, _ + 1, .nil => .nil
  | _, _, n + 1, .cons _ t => dpAll_drop n t
theorem dpAll_take : ∀ {vs : List V} {ds : List PyData} (n : Nat), DtAll K H vs ds → DtAll K H (vs.take n) (ds.take n)
  | _, _, 0, _ => .nil
  | _, _, _ + 1, .nil => .nil
  | _, _, n + 1, .cons a t => .cons a (dpAll_take n t)
theorem dpAll_one {v : V} {d : PyData} (h : Dt K H v d) : DtAll K H [v] [d] := .cons h .nil
theorem dp_tup {v : V} {ds : List PyData} (h : Dt K H v (.tuple ds)) : ∃ a xs, v = .ref a ∧ SqT K H a xs ∧ DtAll K H xs ds := by
  cases h with
  | tup hs ha => exact ⟨_, _, rfl, hs, ha⟩
theorem dp_lst {v : V} {ds : List PyData} (h : Dt K H v (.list ds)) : ∃ a xs, v = .ref a ∧ H a = some (.lst xs) ∧ DtAll K H xs ds := by
  cases h with
  | lst hs ha => exact ⟨_, _, rfl, hs, ha⟩
theorem dp_int {v : V} {i : Int} (h : Dt K H v (.int i)) : v = .int i := by cases h; rfl
theorem dp_str {v : V} {x : Str} (h : Dt K H v (.str x)) : v = .str x := by cases h; rfl
theorem dp_bool {v : V} {b : Bool} (h : Dt K H v (.bool b)) : v = .bl b := by cases h; rfl
theorem dp_none {v : V} (h : Dt K H v .none) : v = .non := by cases h; rfl
end
/-! ### what evaluates to which data -/
/-- H: where the data at hand lie; H1, H2: the heap ahead and behind; Hd: where the new data lie: among H's and what is new -/
structure Gr (H H1 H2 Hd : Hp) : Prop where
  ex : Ex H1 H2
  xd : Ex H Hd
  d2 : Ex Hd H2
  fr : ∀ a, H a = none → H1 a ≠ none → Hd a = none
theorem Gr.base {H H1 H2 : Hp} (a : Ex H H1) (b : Ex H1 H2) : Gr H H1 H2 H := ⟨b, Ex.refl H, a.trans b, fun _ h _ => h⟩
def join (A B : Hp) : Hp := fun a => match A a with
  | some o => some o
  | none => B a
theorem join_l {A B : Hp} : Ex A (join A B) := fun a o h => by unfold join; rw [h]
theorem join_r {A B C : Hp} (ha : Ex A C) (hb : Ex B C) : Ex B (join A B) := fun a o h => by
  unfold join
  cases q : A a with
  | none => exact h
  | some u =>
    have h1 := ha a u q
    have h2 := hb a o h
    rw [h1] at h2
    exact h2
theorem join_to {A B C : Hp} (ha : Ex A C) (hb : Ex B C) : Ex (join A B) C := fun a o h => by
  unfold join at h
  cases q : A a with
  | none => rw [q] at h; exact hb a o h
  | some u => rw [q] at h; cases h; exact ha a _ q
theorem ne_none {H H' : Hp} {a : Addr} (e : Ex H H') (h : H a ≠ none) : H' a ≠ none := by
  cases q : H a with
  | none => exact absurd q h
  | some o => rw [e a o q]; exact fun z => nomatch z
theorem Gr.join {H H1 H2 H3 A B : Hp} (x : Gr H H1 H2 A) (y : Gr H H2 H3 B) : Gr H H1 H3 (join A B) :=
  ⟨x.ex.trans y.ex, x.xd.trans join_l, join_to (x.d2.trans y.ex) y.d2, fun a h0 h1 => by
    have e1 := x.fr a h0 h1
    have e2 := y.fr a h0 (ne_none x.ex h1)
    unfold LC.join
    rw [e1]
    exact e2⟩
theorem Gr.more {H H1 H2 H3 A : Hp} (x : Gr H H1 H2 A) (e : Ex H2 H3) : Gr H H1 H3 A := ⟨x.ex.trans e, x.xd, x.d2.trans e, x.fr⟩
theorem Gr.after {H H1 H2 H3 A : Hp} (e : Ex H1 H2) (x : Gr H H2 H3 A) : Gr H H1 H3 A := ⟨e.trans x.ex, x.xd, x.d2, fun a h0 h1 => x.fr a h0 (ne_none e h1)⟩
/-- a new object for the data -/
theorem Gr.new {H H1 H2 Hd : Hp} {p : Addr} (o : HO) (x : Gr H H1 H2 Hd) (hp : H2 p = none) : Gr H H1 (upd H2 p o) (upd Hd p o) := by
  have hd : Hd p = none := fresh_back x.d2 hp
  refine ⟨x.ex.trans (Ex.new hp), x.xd.trans (Ex.new hd), fun a u h => ?_, fun a h0 h1 => ?_⟩
  · by_cases e : a = p
    · subst e
      rw [upd_same] at h ⊢
      exact h
    · rw [upd_ne e] at h ⊢
      exact x.d2 a u h
  · have e : a ≠ p := fun z => h1 (by rw [z]; exact fresh_back x.ex hp)
    rw [upd_ne e]
    exact x.fr a h0 h1
/-- what was known in a part is known in the whole -/
theorem Gr.wide {H0 H H1 H2 Hd : Hp} (e : Ex H0 H) (e1 : Ex H H1) (x : Gr H0 H1 H2 Hd) : Gr H H1 H2 (LC.join H Hd) :=
  ⟨x.ex, join_l, join_to (e1.trans x.ex) x.d2, fun a h0 h1 => by
    have q : H0 a = none := fresh_back e h0
    have z := x.fr a q h1
    unfold LC.join
    rw [h0]
    exact z⟩
theorem Gr.wide_r {H0 H H1 H2 Hd : Hp} (e1 : Ex H H1) (x : Gr H0 H1 H2 Hd) : Ex Hd (LC.join H Hd) := join_r (e1.trans x.ex) x.d2
/-- te comes to a value of the data d; the heap only grows -/
def EvD (K : Frag) (te : TE) (σ : L2.St) (H : Hp) (d : PyData) : Prop := ∀ H1, Ex H H1 → ∀ Q : VK, (∀ v H2 Hd, Gr H H1 H2 Hd → Dt K Hd v d → Q v H2) → te σ H1 Q
def EvDs (K : Frag) (ta : TA) (σ : L2.St) (H : Hp) (ds : List PyData) : Prop := ∀ H1, Ex H H1 → ∀ Q : List V → Hp → Prop, (∀ vs H2 Hd, Gr H H1 H2 Hd → DtAll K Hd vs ds → Q vs H2) → ta σ H1 Q
/-- a promise over data: from such arguments this comes, and the heap only grows -/
def spD (K : Frag) (F : List PyData → PyData → Prop) : Sp := fun vs H Q _ => ∃ ds d H0, Ex H0 H ∧ DtAll K H0 vs ds ∧ F ds d ∧ ∀ v H2 Hd, Gr H0 H H2 Hd → Dt K Hd v d → Q v H2
section
variable {K : Frag} {σ : L2.St} {H H' : Hp} {ta tb te tx : TE} {t u : TT} {d e : PyData}
theorem EvD.mono (x : Ex H H') (h : EvD K te σ H d) : EvD K te σ H' d := fun H1 a Q q => h H1 (x.trans a) Q fun v H2 Hd g hd => q v H2 _ (g.wide x a) (dp_ex (g.wide_r a) _ _ hd)
theorem EvDs.mono {ta : TA} {ds : List PyData} (x : Ex H H') (h : EvDs K ta σ H ds) : EvDs K ta σ H' ds := fun H1 a Q q => h H1 (x.trans a) Q fun v H2 Hd g hd => q v H2 _ (g.wide x a) (dpAll_ex (g.wide_r a) _ _ hd)
theorem evd_of {v : V} (h : Ev te σ H v) (hd : Dt K H v d) : EvD K te σ H d := fun H1 e Q q => h H1 e Q fun H2 e2 => q v H2 H (Gr.base e e2) hd
theorem evd_var {i : Nat} {v : V} (hd : Dt K H v d) (h : σ[i]? = some (some v) := by rfl) : EvD K (tVar i) σ H d := evd_of (ev_var h) hd
theorem evd_int {i : Int} : EvD K (tC (.int i)) σ H (.int i) := evd_of ev_c (.int i)
theorem evd_str {x : Str} : EvD K (tC (.str x)) σ H (.str x) := evd_of ev_c (.str x)
theorem evd_bl {b : Bool} : EvD K (tC (.bl b)) σ H (.bool b) := evd_of ev_c (.bl b)
theorem evd_non : EvD K (tC .non) σ H .none := evd_of ev_c .non
theorem evd_is {d' : PyData} (h : EvD K te σ H d) (e : d = d') : EvD K te σ H d' := e ▸ h
theorem ev_int {i : Int} (h : EvD K te σ H (.int i)) : Ev te σ H (.int i) := fun H1 e Q q => h H1 e Q fun v H2 Hd g hd => by rw [dp_int hd]; exact q H2 g.ex
theorem ev_str {x : Str} (h : EvD K te σ H (.str x)) : Ev te σ H (.str x) := fun H1 e Q q => h H1 e Q fun v H2 Hd g hd => by rw [dp_str hd]; exact q H2 g.ex
theorem ev_bl {b : Bool} (h : EvD K te σ H (.bool b)) : Ev te σ H (.bl b) := fun H1 e Q q => h H1 e Q fun v H2 Hd g hd => by rw [dp_bool hd]; exact q H2 g.ex
theorem evd_b {b : Bool} (h : Ev te σ H (.bl b)) : EvD K te σ H (.bool b) := evd_of h (.bl b)
theorem evd_i {i : Int} (h : Ev te σ H (.int i)) : EvD K te σ H (.int i) := evd_of h (.int i)
theorem evd_s {x : Str} (h : Ev te σ H (.str x)) : EvD K te σ H (.str x) := evd_of h (.str x)
theorem eds_nil : EvDs K tNil σ H [] := fun H1 e _ q => q [] H1 H (Gr.base e (Ex.refl H1)) .nil
theorem eds_cons {tr : TA} {ds : List PyData} (h : EvD K te σ H d) (hr : EvDs K tr σ H ds) : EvDs K (tCons te tr) σ H (d :: ds) := fun H1 e _ q =>
  h H1 e _ fun v H2 A g hd => hr H2 (e.trans g.ex) _ fun vs H3 B g2 hds => q (v :: vs) H3 _ (g.join g2) (.cons (dp_ex join_l _ _ hd) (dpAll_ex (join_r (g.d2.trans g2.ex) g2.d2) _ _ hds))
theorem evd_tup {ta : TA} {ds : List PyData} (h : EvDs K ta σ H ds) (hl : ds.length ≤ 100000) : EvD K (tTup ta) σ H (.tuple ds) := fun H1 e _ q =>
  h H1 e _ fun vs H2 Hd g hds => ⟨by rw [dpAll_len hds]; exact sz_of hl, fun p hp => q (.ref p) _ _ (g.new _ hp) (.tup (st_of upd_same) (dpAll_ex (Ex.new (fresh_back g.d2 hp)) _ _ hds))⟩
theorem evd_lst {ta : TA} {ds : List PyData} (h : EvDs K ta σ H ds) (hl : ds.length ≤ 100000) : EvD K (tLst ta) σ H (.list ds) := fun H1 e _ q =>
  h H1 e _ fun vs H2 Hd g hds => ⟨by rw [dpAll_len hds]; exact sz_of hl, fun p hp => q (.ref p) _ _ (g.new _ hp) (.lst upd_same (dpAll_ex (Ex.new (fresh_back g.d2 hp)) _ _ hds))⟩
theorem evd_call {F : List PyData → PyData → Prop} {ta : TA} {ds : List PyData} {E : XK} (h : EvDs K ta σ H ds) (hf : F ds d) : EvD K (tCall (spD K F) [] E ta) σ H d := fun H1 e Q q =>
  h H1 e _ fun vs H2 A g hds => ⟨ds, d, A, g.d2, by rw [List.append_nil]; exact hds, hf, fun v H3 B g2 hd => q v H3 B
    ⟨g.ex.trans g2.ex, g.xd.trans g2.xd, g2.d2, fun a h0 h1 => g2.fr a (g.fr a h0 h1) (ne_none g.ex h1)⟩ hd⟩
/-- tests -/
theorem et_tru {b : Bool} (h : EvD K te σ H d) (ht : ∀ v H1, Dt K H1 v d → TruV K v H1 b) : EvT (fun σ H Q => te σ H fun x H' => ∃ k, TruV K x H' k ∧ Q k H') σ H b := fun H1 e Q q =>
  h H1 e _ fun v H2 Hd g hd => ⟨b, ht v H2 (dp_ex g.d2 _ _ hd), q H2 g.ex⟩
theorem evd_if {b : Bool} (h : EvT t σ H b) (h1 : b = true → EvD K ta σ H d) (h2 : b = false → EvD K tb σ H d) : EvD K (tIf t ta tb) σ H d := fun H1 e Q q => h H1 e _ fun H2 e2 => by
  cases b with
  | true =>
    show ta σ H2 Q
    exact h1 rfl H2 (e.trans e2) Q fun v H3 Hd g => q v H3 Hd (g.after e2)
  | false =>
    show tb σ H2 Q
    exact h2 rfl H2 (e.trans e2) Q fun v H3 Hd g => q v H3 Hd (g.after e2)
/-! statements: H the heap as it is, H0 the part where the data lie -/
variable {D : Ends} {tu tw : TS} {H0 : Hp}
theorem s_retD (h : EvD K te σ H0 d) (x : Ex H0 H) (k : ∀ v H1 Hd, Gr H0 H H1 Hd → Dt K Hd v d → D.rt v H1) : tRet te D σ H := h H x _ k
theorem s_asgD {i : Nat} (h : EvD K te σ H0 d) (x : Ex H0 H) (k : ∀ v H1 Hd, Gr H0 H H1 Hd → Dt K Hd v d → D.nx (σ.set i (some v)) H1) : tAsg te (gName i) D σ H := h H x _ k
theorem s_dropD (h : EvD K te σ H0 d) (x : Ex H0 H) (k : ∀ v H1 Hd, Gr H0 H H1 Hd → Dt K Hd v d → D.nx σ H1) : tDrop te D σ H := h H x _ k
theorem s_ifD {b : Bool} (h : EvT t σ H0 b) (x : Ex H0 H) (h1 : b = true → ∀ H1, Ex H H1 → tu D σ H1) (h2 : b = false → ∀ H1, Ex H H1 → tw D σ H1) : tIfS t tu tw D σ H := h H x _ fun H1 e => by
  cases b with
  | true => exact h1 rfl H1 e
  | false => exact h2 rfl H1 e
end
end LC

namespace LC
open PySem L2 Evl
/-! ### universal operators: the reading chooses -/
def rOr (r s : R2) : R2 := fun x y H Q => r x y H Q ∨ s x y H Q
abbrev rPlusI : R2 := rI0 fun i j => .int (i + j)
def rPlusS : R2 := fun x y H Q => ∃ i j, x = .str i ∧ y = .str j ∧ i.length + j.length ≤ sizeLine ∧ Q (.str (i ++ j)) H
def rAddU (K : Frag) : R2 := rOr rPlusI (rOr rPlusS (rOr rCat (rCatA K)))
def rMulU (K : Frag) : R2 := rOr (rI CMul fun i j => .int (i * j)) (rOr rRep (rRepT K))
def rInU (K : Frag) (neg : Bool) : R2 := rOr (rIn K neg) (fun x y H Q => ∃ (c : Nat) (z : Str), x = .str ⟨#[c]⟩ ∧ y = .str z ∧ Q (.bl (if neg then !decide (c ∈ z.cps.toList) else decide (c ∈ z.cps.toList))) H)
def rSlU (K : Frag) : V → Option Int → Option Int → Hp → VK → Prop := fun x lo hi H Q => rSlL K x lo hi H Q ∨ rSlA K x lo hi H Q ∨ rSlS x lo hi H Q
def iSeq (K : Frag) (tl : TE) : TI := fun σ H R => iList K tl σ H R ∨ iTup K tl σ H R ∨ iStr tl σ H R
section
variable {X : Cx}
theorem opAdd : OpR X (binaryOp .Add) (rAddU X.K) := OpR.or op_add (OpR.or op_add_str (OpR.or op_cat op_catA))
theorem opMul : OpR X (binaryOp .Mult) (rMulU X.K) := OpR.or op_mul (OpR.or op_rep op_repT)
theorem opIn : OpR X (compareOp .In) (rInU X.K false) := OpR.or op_in_seq (by
  intro pins s σ H x y v u Q I rx ry h
  exact op_in_sign pins s σ H x y v u Q I rx ry h)
theorem opNotIn : OpR X (compareOp .NotIn) (rInU X.K true) := OpR.or op_notIn_seq (by
  intro pins s σ H x y v u Q I rx ry h
  exact op_notIn_sign pins s σ H x y v u Q I rx ry h)
theorem slU : SlR X (rSlU X.K) := SlR.or sl_list (SlR.or sl_tupA sl_str)
theorem pi_seq {tg e : Expr} {te : TE} (he : PE X e te) : PI X tg e (iSeq X.K te) := by
  refine ⟨fun pins s σ H R I h => ?_⟩
  rcases h with h | h | h
  · exact (pi_list he).run pins s σ H R I h
  · exact (pi_tup he).run pins s σ H R I h
  · exact (pi_str he).run pins s σ H R I h
end
/-! ### the type of data -/
def tyN : PyData → String
  | .none => "NoneType"
  | .bool _ => "bool"
  | .int _ => "int"
  | .str _ => "str"
  | .list _ => "list"
  | .tuple _ => "tuple"
  | .dict _ => "dict"
def isT (d : PyData) (T : String) : Bool := tyN d == T || (tyN d == "bool" && T == "int")
theorem kitB_all : ["NoneType", "bool", "int", "str", "list", "tuple", "dict"].all (fun a => ["bool", "int", "str", "list", "tuple", "dict"].all fun b => decide (kitB a b = some (a == b || (a == "bool" && b == "int")))) = true := by decide +kernel
theorem tyN_mem (d : PyData) : tyN d ∈ ["NoneType", "bool", "int", "str", "list", "tuple", "dict"] := by cases d <;> simp [tyN]
theorem kit_isT {K : Frag} (d : PyData) {T : String} (hT : T ∈ ["bool", "int", "str", "list", "tuple", "dict"]) : PySem.W.kitOne K (.type (tyN d)) (.type T) = some (isT d T) :=
  kit_ty (of_decide_eq_true (List.all_eq_true.mp (List.all_eq_true.mp kitB_all _ (tyN_mem d)) _ hT))
section
variable {K : Frag} {σ : L2.St} {H H' : Hp} {ta tb te tx : TE} {t u : TT} {d e : PyData}
theorem dp_ty {v : V} (h : Dt K H v d) : TyX K H v (.type (tyN d)) := by
  cases h with
  | non => exact .base .non
  | bl b => exact .base (.bl b)
  | int i => exact .base (.int i)
  | str x => exact .base (.str x)
  | lst hs _ => exact .base (.lst hs)
  | tup hs _ =>
    rcases hs with (hs | ⟨o, hs⟩) | ⟨o, its, n, hk, hc, _⟩
    · exact .base (.tup hs)
    · exact .fTuple hs
    · exact .kTuple hk hc
theorem ev_isi {T : String} (h : EvD K te σ H d) (hT : T ∈ ["bool", "int", "str", "list", "tuple", "dict"]) : Ev (tCB (rIsi K) (tCons te (tCons (tC (.ty T)) tNil))) σ H (.bl (isT d T)) := fun H1 e Q q =>
  h H1 e _ fun v H2 Hd g hd => ⟨v, .ty T, _, _, _, rfl, .ty T, dp_ty (dp_ex g.d2 _ _ hd), kit_isT d hT, q H2 g.ex⟩
/-! ints, texts -/
theorem ev_addI {i j : Int} (ha : EvD K ta σ H (.int i)) (hb : EvD K tb σ H (.int j)) : EvD K (tOp (rAddU K) ta tb) σ H (.int (i + j)) := evd_i (ev_op (ev_int ha) (ev_int hb) fun H1 _ _ q => .inl ⟨i, j, rfl, rfl, q H1 (Ex.refl H1)⟩)
theorem ev_I0 {g : Int → Int → V} {i j : Int} (ha : EvD K ta σ H (.int i)) (hb : EvD K tb σ H (.int j)) : Ev (tOp (rI0 g) ta tb) σ H (g i j) := ev_op (ev_int ha) (ev_int hb) rv_I0
theorem ev_I {C : Int → Int → Prop} {g : Int → Int → V} {i j : Int} (ha : EvD K ta σ H (.int i)) (hb : EvD K tb σ H (.int j)) (hc : C i j) : Ev (tOp (rI C g) ta tb) σ H (g i j) := ev_op (ev_int ha) (ev_int hb) (rv_I hc)
theorem evd_mulI {i j : Int} (ha : EvD K ta σ H (.int i)) (hb : EvD K tb σ H (.int j)) (hc : CMul i j) : EvD K (tOp (rMulU K) ta tb) σ H (.int (i * j)) := evd_i (ev_op (ev_int ha) (ev_int hb) fun H1 _ _ q => .inl ⟨i, j, rfl, rfl, hc, q H1 (Ex.refl H1)⟩)
/-! two data operands in a row -/
theorem evd_op {r : R2} {z : PyData} (ha : EvD K ta σ H d) (hb : EvD K tb σ H e) (hr : ∀ x y H1 A, Ex A H1 → Dt K A x d → Dt K A y e → ∀ Q : VK, (∀ v H2 B, Gr A H1 H2 B → Dt K B v z → Q v H2) → r x y H1 Q) : EvD K (tOp r ta tb) σ H z := fun H1 e1 Q q =>
  ha H1 e1 _ fun x H2 A g hx => hb H2 (e1.trans g.ex) _ fun y H3 B g2 hy => hr x y H3 _ (g.join g2).d2 (dp_ex join_l _ _ hx) (dp_ex (join_r (g.d2.trans g2.ex) g2.d2) _ _ hy) Q fun v H4 C g3 hv => q v H4 C
    ⟨(g.ex.trans g2.ex).trans g3.ex, (g.join g2).xd.trans g3.xd, g3.d2, fun a h0 h1 => g3.fr a ((g.join g2).fr a h0 h1) (ne_none (g.ex.trans g2.ex) h1)⟩ hv
theorem ev_opd {r : R2} {z : V} (ha : EvD K ta σ H d) (hb : EvD K tb σ H e) (hr : ∀ x y H1, Dt K H1 x d → Dt K H1 y e → ∀ Q : VK, Q z H1 → r x y H1 Q) : Ev (tOp r ta tb) σ H z := fun H1 e1 Q q =>
  ha H1 e1 _ fun x H2 A g hx => hb H2 (e1.trans g.ex) _ fun y H3 B g2 hy => hr x y H3 (dp_ex (g.d2.trans g2.ex) _ _ hx) (dp_ex g2.d2 _ _ hy) Q (q H3 (g.ex.trans g2.ex))
theorem ev_eq (ha : EvD K ta σ H d) (hb : EvD K tb σ H e) (hd : SeqAt.shaped d = true) (he : SeqAt.shaped e = true) : Ev (tOp (rEqD K) ta tb) σ H (.bl (PyData.eqv d e)) := ev_opd ha hb fun x y H1 hx hy Q q => ⟨d, e, dt_dp _ _ hx, dt_dp _ _ hy, hd, he, q⟩
theorem ev_ne (ha : EvD K ta σ H d) (hb : EvD K tb σ H e) (hd : SeqAt.shaped d = true) (he : SeqAt.shaped e = true) : Ev (tOp (rNeD K) ta tb) σ H (.bl (!PyData.eqv d e)) := ev_opd ha hb fun x y H1 hx hy Q q => ⟨d, e, dt_dp _ _ hx, dt_dp _ _ hy, hd, he, q⟩
/-- an item -/
theorem atI_dp {vs : List V} {ds : List PyData} {i : Int} {d : PyData} (h : DtAll K H vs ds) (e : atI ds i = some d) : ∃ v, atI vs i = some v ∧ Dt K H v d := by
  unfold atI at e ⊢
  rw [dpAll_len h]
  cases q : ixN ds.length i with
  | none => rw [q] at e; cases e
  | some j =>
    rw [q] at e
    exact dpAll_at h e
theorem evd_ixT {ds : List PyData} {i : Int} (ha : EvD K ta σ H (.tuple ds)) (hb : EvD K tb σ H (.int i)) (hi : atI ds i = some d) : EvD K (tOp (rIx K) ta tb) σ H d := evd_op ha hb fun x y H1 A e hx hy Q q => by
  obtain ⟨a, xs, rfl, hs, hall⟩ := dp_tup hx
  cases hy
  obtain ⟨v, hv, hd⟩ := atI_dp hall hi
  exact .inr (.inl ⟨a, xs, i, v, rfl, rfl, ex_t e hs, hv, q v H1 A (Gr.base e (Ex.refl H1)) hd⟩)
theorem evd_ixL {ds : List PyData} {i : Int} (ha : EvD K ta σ H (.list ds)) (hb : EvD K tb σ H (.int i)) (hi : atI ds i = some d) : EvD K (tOp (rIx K) ta tb) σ H d := evd_op ha hb fun x y H1 A e hx hy Q q => by
  obtain ⟨a, xs, rfl, hs, hall⟩ := dp_lst hx
  cases hy
  obtain ⟨v, hv, hd⟩ := atI_dp hall hi
  exact .inl ⟨a, xs, i, v, rfl, rfl, sq_of (e _ _ hs), hv, q v H1 A (Gr.base e (Ex.refl H1)) hd⟩
/-- len -/
theorem ev_lenT {ds : List PyData} (ha : EvD K ta σ H (.tuple ds)) : Ev (tCB (fun xs H Q => ∃ x n, xs = [x] ∧ LenV K x H n ∧ Q (.int n) H) (tCons ta tNil)) σ H (.int (ds.length : Int)) := fun H1 e Q q =>
  ha H1 e _ fun v H2 A g hd => by
    obtain ⟨a, xs, rfl, hs, hall⟩ := dp_tup hd
    exact ⟨_, ds.length, rfl, .inr ⟨xs, ex_t g.d2 hs, (dpAll_len hall).symm⟩, q H2 g.ex⟩
theorem ev_lenL {ds : List PyData} (ha : EvD K ta σ H (.list ds)) : Ev (tCB (fun xs H Q => ∃ x n, xs = [x] ∧ LenV K x H n ∧ Q (.int n) H) (tCons ta tNil)) σ H (.int (ds.length : Int)) := fun H1 e Q q =>
  ha H1 e _ fun v H2 A g hd => by
    obtain ⟨a, xs, rfl, hs, hall⟩ := dp_lst hd
    exact ⟨_, ds.length, rfl, .inl ⟨xs, sq_of (g.d2 _ _ hs), (dpAll_len hall).symm⟩, q H2 g.ex⟩
theorem ev_lenS {x : Str} (ha : EvD K ta σ H (.str x)) (hl : x.length ≤ sizeLine) : Ev (tCB (fun xs H Q => ∃ x n, xs = [x] ∧ LenV K x H n ∧ Q (.int n) H) (tCons ta tNil)) σ H (.int (x.length : Int)) := fun H1 e Q q =>
  ha H1 e _ fun v H2 A g hd => by
    rw [dp_str hd]
    exact ⟨_, x.length, rfl, ⟨hl, rfl⟩, q H2 g.ex⟩
/-- a slice -/
theorem eo_i {i : Int} (h : EvD K te σ H (.int i)) : EvO (tPart te) σ H (some i) := fun H1 e Q q => h H1 e _ fun v H2 A g hd => ⟨i, dp_int hd, q H2 g.ex⟩
def cutD (ds : List PyData) (lo hi : Option Int) : List PyData := (ds.drop (HT.sIx ds.length 0 lo)).take (HT.sIx ds.length ds.length hi - HT.sIx ds.length 0 lo)
theorem cutV_dp {vs : List V} {ds : List PyData} (h : DtAll K H vs ds) (lo hi : Option Int) : DtAll K H (cutV vs lo hi) (cutD ds lo hi) := by
  unfold cutV cutD
  rw [dpAll_len h]
  exact dpAll_take _ (dpAll_drop _ h)
theorem cut_whole {ds : List PyData} {lo hi : Option Int} (h : HT.sIx ds.length 0 lo = 0 ∧ HT.sIx ds.length ds.length hi = ds.length) : cutD ds lo hi = ds := by
  unfold cutD
  rw [h.1, h.2]
  simp
theorem evd_slT {ds : List PyData} {lo hi : TO} {l h : Option Int} (ha : EvD K ta σ H (.tuple ds)) (hl : EvO lo σ H l) (hh : EvO hi σ H h) : EvD K (tSl (rSlU K) ta lo hi) σ H (.tuple (cutD ds l h)) := fun H1 e Q q =>
  ha H1 e _ fun v H2 A g hd => hl H2 (e.trans g.ex) _ fun H3 e3 => hh H3 ((e.trans g.ex).trans e3) _ fun H4 e4 => by
    obtain ⟨a, xs, rfl, hs, hall⟩ := dp_tup hd
    have hl := dpAll_len hall
    have g4 : Gr H H1 H4 A := g.more (e3.trans e4)
    refine .inr (.inl ⟨a, xs, rfl, ex_t g4.d2 hs, fun hw => ?_, fun hw p hp => ?_⟩)
    · rw [hl] at hw
      refine q _ H4 A g4 ?_
      rw [cut_whole hw]
      exact .tup hs hall
    · exact q _ _ _ (g4.new _ hp) (.tup (st_of upd_same) (dpAll_ex (Ex.new (fresh_back g4.d2 hp)) _ _ (cutV_dp hall l h)))
theorem evd_slL {ds : List PyData} {lo hi : TO} {l h : Option Int} (ha : EvD K ta σ H (.list ds)) (hl : EvO lo σ H l) (hh : EvO hi σ H h) : EvD K (tSl (rSlU K) ta lo hi) σ H (.list (cutD ds l h)) := fun H1 e Q q =>
  ha H1 e _ fun v H2 A g hd => hl H2 (e.trans g.ex) _ fun H3 e3 => hh H3 ((e.trans g.ex).trans e3) _ fun H4 e4 => by
    obtain ⟨a, xs, rfl, hs, hall⟩ := dp_lst hd
    have g4 : Gr H H1 H4 A := g.more (e3.trans e4)
    exact .inl ⟨a, xs, rfl, sq_of (g4.d2 _ _ hs), fun p hp => q _ _ _ (g4.new _ hp) (.lst upd_same (dpAll_ex (Ex.new (fresh_back g4.d2 hp)) _ _ (cutV_dp hall l h)))⟩
/-- x in a sequence of flat things -/
def flatD : PyData → Bool
  | .none => true
  | .bool _ => true
  | .int _ => true
  | .str _ => true
  | _ => false
theorem flat_dp {v : V} (h : Dt K H v d) (f : flatD d = true) : flatV v = true := by
  cases h <;> first | rfl | cases f
theorem flats_dp : ∀ {vs : List V} {ds : List PyData}, DtAll K H vs ds → ds.all flatD = true → vs.all flatV = true
  | _, _, .nil, _ => rfl
  | _, _, .cons h t, f => by
    rw [List.all_cons, Bool.and_eq_true] at f ⊢
    exact ⟨flat_dp h f.1, flats_dp t f.2⟩
theorem eqV_dp {x y : V} {d e : PyData} (hx : Dt K H x d) (hy : Dt K H y e) (fd : flatD d = true) (fe : flatD e = true) : eqV x y = PyData.eqv d e := by
  cases hx <;> cases hy <;> first | (simp [flatD] at fd; done) | (simp [flatD] at fe; done) | rfl | (simp only [eqV, PyData.eqv]; done)
def inD (d : PyData) (ds : List PyData) : Bool := ds.any fun e => PyData.eqv e d
theorem inV_dp {x : V} {d : PyData} (hx : Dt K H x d) (fd : flatD d = true) : ∀ {vs : List V} {ds : List PyData}, DtAll K H vs ds → ds.all flatD = true → inV x vs = inD d ds
  | _, _, .nil, _ => rfl
  | _, _, .cons h t, f => by
    rw [List.all_cons, Bool.and_eq_true] at f
    show (eqV _ x || inV x _) = (PyData.eqv _ d || inD d _)
    rw [eqV_dp h hx f.1 fd, inV_dp hx fd t f.2]
theorem ev_inT {neg : Bool} {ds : List PyData} (ha : EvD K ta σ H d) (hb : EvD K tb σ H (.tuple ds)) (fd : flatD d = true) (fs : ds.all flatD = true) : Ev (tOp (rInU K neg) ta tb) σ H (.bl (if neg then !inD d ds else inD d ds)) := ev_opd ha hb fun x y H1 hx hy Q q => by
  obtain ⟨a, xs, rfl, hs, hall⟩ := dp_tup hy
  exact .inl ⟨a, xs, rfl, .inr hs, flat_dp hx fd, flats_dp hall fs, by rw [inV_dp hx fd hall fs]; exact q⟩
theorem ev_inL {neg : Bool} {ds : List PyData} (ha : EvD K ta σ H d) (hb : EvD K tb σ H (.list ds)) (fd : flatD d = true) (fs : ds.all flatD = true) : Ev (tOp (rInU K neg) ta tb) σ H (.bl (if neg then !inD d ds else inD d ds)) := ev_opd ha hb fun x y H1 hx hy Q q => by
  obtain ⟨a, xs, rfl, hs, hall⟩ := dp_lst hy
  exact .inl ⟨a, xs, rfl, .inl (sq_of hs), flat_dp hx fd, flats_dp hall fs, by rw [inV_dp hx fd hall fs]; exact q⟩
theorem ev_inS {neg : Bool} {c : Nat} {z : Str} (ha : EvD K ta σ H (.str ⟨#[c]⟩)) (hb : EvD K tb σ H (.str z)) : Ev (tOp (rInU K neg) ta tb) σ H (.bl (if neg then !decide (c ∈ z.cps.toList) else decide (c ∈ z.cps.toList))) := ev_opd ha hb fun x y H1 hx hy Q q => by
  cases hx
  cases hy
  exact .inr ⟨c, z, rfl, rfl, q⟩
/-- lists, tuples one behind the other -/
theorem evd_addT {ds es : List PyData} (ha : EvD K ta σ H (.tuple ds)) (hb : EvD K tb σ H (.tuple es)) (hl : ds.length + es.length ≤ 100000) : EvD K (tOp (rAddU K) ta tb) σ H (.tuple (ds ++ es)) := evd_op ha hb fun x y H1 A e hx hy Q q => by
  obtain ⟨a, xs, rfl, hs, h1⟩ := dp_tup hx
  obtain ⟨b, ys, rfl, ht, h2⟩ := dp_tup hy
  refine .inr (.inr (.inr ⟨a, b, xs, ys, rfl, rfl, ex_t e hs, ex_t e ht, by rw [dpAll_len h1, dpAll_len h2]; exact sz_of hl, fun z => ?_, fun _ z => ?_, fun _ _ p hp => ?_⟩))
  · subst z
    cases h1
    exact q _ H1 A (Gr.base e (Ex.refl H1)) (.tup ht h2)
  · subst z
    cases h2
    rw [List.append_nil] at q
    exact q _ H1 A (Gr.base e (Ex.refl H1)) (.tup hs h1)
  · exact q _ _ _ ((Gr.base e (Ex.refl H1)).new _ hp) (.tup (st_of upd_same) (dpAll_ex (Ex.new (fresh_back e hp)) _ _ (dpAll_app h1 h2)))
/-- two lists, both of their own (tracked) -/
theorem evd_addL {ds es : List PyData} (ha : EvD K ta σ H (.list ds)) (hb : EvD K tb σ H (.list es)) (hl : ds.length + es.length ≤ 100000) : EvD K (tOp (rAddU K) ta tb) σ H (.list (ds ++ es)) := evd_op ha hb fun x y H1 A e dx dy Q q => by
  obtain ⟨a, xs, rfl, hs, h1⟩ := dp_lst dx
  obtain ⟨b, ys, rfl, ht, h2⟩ := dp_lst dy
  refine .inr (.inr (.inl ⟨a, b, xs, ys, rfl, rfl, e _ _ hs, e _ _ ht, by rw [dpAll_len h1, dpAll_len h2]; exact sz_of hl, fun p hp => ?_⟩))
  exact q _ _ _ ((Gr.base e (Ex.refl H1)).new _ hp) (.lst upd_same (dpAll_ex (Ex.new (fresh_back e hp)) _ _ (dpAll_app h1 h2)))
end
end LC

namespace LC
open PySem L2 Evl
/-! ### a list that is being filled -/
/-- D, new behind H2, holds out; what it holds lies among A's data and what is new -/
def Acc (K : Frag) (A H2 : Hp) (D : Addr) (out : List PyData) (H' : Hp) : Prop := Ex H2 H' ∧ ∃ B acc, H' D = some (.lst acc) ∧ Ex A B ∧ Ex B H' ∧ B D = none ∧ (∀ a, A a = none → H2 a ≠ none → B a = none) ∧ DtAll K B acc out
section
variable {K : Frag} {A H H1 H2 H3 H4 H' H'' C Hd : Hp} {D : Addr} {out : List PyData} {d : PyData} {y : V}
theorem Acc.nil (e : Ex A H2) (hD : H2 D = none) : Acc K A H2 D [] (upd H2 D (.lst [])) :=
  ⟨Ex.new hD, A, [], upd_same, Ex.refl A, e.trans (Ex.new hD), fresh_back e hD, fun _ h _ => h, .nil⟩
theorem Acc.grow (h : Acc K A H2 D out H') (e : Ex H' H'') : Acc K A H2 D out H'' := by
  obtain ⟨x, B, acc, h1, h2, h3, h4, h5, h6⟩ := h
  exact ⟨x.trans e, B, acc, e _ _ h1, h2, h3.trans e, h4, h5, h6⟩
theorem Acc.at (h : Acc K A H2 D out H') : ∃ acc, H' D = some (.lst acc) ∧ acc.length = out.length := by
  obtain ⟨x, B, acc, h1, h2, h3, h4, h5, h6⟩ := h
  exact ⟨acc, h1, dpAll_len h6⟩
theorem Acc.base (h : Acc K A H2 D out H') : Ex A H' := by
  obtain ⟨x, B, acc, h1, h2, h3, h4, h5, h6⟩ := h
  exact h2.trans h3
theorem Acc.start (e : Ex A H2) (x : Ex H2 H') (hD : H2 D = none) (h : H' D = some (.lst [])) : Acc K A H2 D [] H' :=
  ⟨x, A, [], h, Ex.refl A, e.trans x, fresh_back e hD, fun _ h _ => h, .nil⟩
theorem Acc.rebase (h : Acc K A H2 D out H') (x : Ex A Hd) (y : Ex Hd H') (n : Hd D = none) : Acc K Hd H2 D out H' := by
  obtain ⟨x0, B, acc, h1, h2, h3, h4, h5, h6⟩ := h
  refine ⟨x0, join B Hd, acc, h1, join_r h3 y, join_to h3 y, by unfold join; rw [h4]; exact n, fun a ha hn => ?_, dpAll_ex join_l _ _ h6⟩
  have e1 := h5 a (fresh_back x ha) hn
  unfold join
  rw [e1]
  exact ha
theorem ex_upd {B H4 : Hp} {o : HO} (e : Ex B H4) (h : B D = none) : Ex B (upd H4 D o) := fun a u q => by
  rw [upd_ne (ne_of_none q h)]
  exact e a u q
/-- several at once -/
theorem Acc.push' {ys : List V} {ds : List PyData} (h : Acc K A H2 D out H3) (hA : A D = none) (hD : H2 D = none) (g : Gr A H3 H4 C) (hy : DtAll K C ys ds) :
    ∃ acc, H4 D = some (.lst acc) ∧ acc.length = out.length ∧ Acc K A H2 D (out ++ ds) (upd H4 D (.lst (acc ++ ys))) := by
  obtain ⟨x, B, acc, h1, h2, h3, h4, h5, h6⟩ := h
  have cD : C D = none := g.fr D hA (by rw [h1]; exact fun z => nomatch z)
  have bj : Ex B (join B C) := join_l
  have cj : Ex C (join B C) := join_r (h3.trans g.ex) g.d2
  have jD : join B C D = none := by unfold join; rw [h4]; exact cD
  refine ⟨acc, g.ex _ _ h1, dpAll_len h6, Ex.mut (x.trans g.ex) hD, join B C, acc ++ ys, upd_same, h2.trans bj, ex_upd (join_to (h3.trans g.ex) g.d2) jD, jD, fun a h0 hn => ?_, dpAll_app (dpAll_ex bj _ _ h6) (dpAll_ex cj _ _ hy)⟩
  have e1 := h5 a h0 hn
  have e2 := g.fr a h0 (ne_none x hn)
  unfold join
  rw [e1]
  exact e2
theorem Acc.push (h : Acc K A H2 D out H3) (hA : A D = none) (hD : H2 D = none) (g : Gr A H3 H4 C) (hy : Dt K C y d) :
    ∃ acc, H4 D = some (.lst acc) ∧ acc.length = out.length ∧ Acc K A H2 D (out ++ [d]) (upd H4 D (.lst (acc ++ [y]))) := h.push' hA hD g (.cons hy .nil)
theorem Acc.done (h : Acc K A H2 D out H') (xd : Ex H A) (fr : ∀ a, H a = none → H1 a ≠ none → A a = none) (ex : Ex H1 H2) (hD : H2 D = none) : ∃ Hd, Gr H H1 H' Hd ∧ Dt K Hd (.ref D) (.list out) := by
  obtain ⟨x, B, acc, h1, h2, h3, h4, h5, h6⟩ := h
  refine ⟨upd B D (.lst acc), ⟨ex.trans x, (xd.trans h2).trans (Ex.new h4), fun a u q => ?_, fun a h0 hn => ?_⟩, .lst upd_same (dpAll_ex (Ex.new h4) _ _ h6)⟩
  · by_cases e : a = D
    · subst e
      rw [upd_same] at q
      cases q
      exact h1
    · rw [upd_ne e] at q
      exact h3 a u q
  · have ne : a ≠ D := fun z => hn (by rw [z]; exact fresh_back ex hD)
    rw [upd_ne ne]
    exact h5 a (fr a h0 hn) (ne_none ex hn)
end
/-! ### comprehensions over data -/
section
variable {K : Frag} {σ : L2.St} {H : Hp} {te tl : TE} {tt : TT} {j : Nat} {vs : List Nat}
theorem lc_turn {A H2 H' : Hp} {D : Addr} {out : List PyData} {σ2 : L2.St} {b : Bool} {z : PyData} (e : Ex A H2) (hD : H2 D = none) (p : Acc K A H2 D out H') (hl : out.length < 50000) (ht : EvT tt σ2 A b) (he : b = true → EvD K te σ2 A z) :
    tt σ2 H' fun b' H3 => if b' = true then te σ2 H3 fun y H4 => ∃ acc, H4 D = some (.lst acc) ∧ acc.length < sizeLine ∧ Acc K A H2 D (if b then out ++ [z] else out) (upd H4 D (.lst (acc ++ [y]))) else Acc K A H2 D (if b then out ++ [z] else out) H3 := by
  refine ht H' (p.base) _ fun H3 e3 => ?_
  cases b with
  | true =>
    show te σ2 H3 _
    refine he rfl H3 ((p.base).trans e3) _ fun y H4 C g hy => ?_
    obtain ⟨acc, h1, h2, h3⟩ := (p.grow e3).push (fresh_back e hD) hD g hy
    exact ⟨acc, h1, sz_lt (by omega), h3⟩
  | false => exact p.grow e3
theorem take_snoc {ds : List PyData} {i : Nat} {d : PyData} (h : ds[i]? = some d) : ds.take (i + 1) = ds.take i ++ [d] := by
  rw [List.take_add_one, h] <;> rfl
theorem out_snoc {ds : List PyData} {i : Nat} {d : PyData} (f : PyData → Bool) (g : PyData → PyData) (h : ds[i]? = some d) :
    ((ds.take (i + 1)).filter f).map g = if f d then ((ds.take i).filter f).map g ++ [g d] else ((ds.take i).filter f).map g := by
  rw [take_snoc h, List.filter_append, List.map_append]
  cases q : f d with
  | true => simp [q]
  | false => simp [q]
theorem out_len {ds : List PyData} (f : PyData → Bool) (g : PyData → PyData) (i : Nat) : (((ds.take i).filter f).map g).length ≤ ds.length := by
  rw [List.length_map]
  refine Nat.le_trans (List.length_filter_le _ _) ?_
  rw [List.length_take]
  omega
theorem evd_lcT {ds : List PyData} (f : PyData → Bool) (g : PyData → PyData) (h : EvD K tl σ H (.tuple ds)) (hz : ds.length ≤ 40000) (hw : ∀ x, wipe ((wipe σ vs).set j (some x)) vs = wipe σ vs)
    (ht : ∀ x d H1, Ex H H1 → d ∈ ds → Dt K H1 x d → EvT tt ((wipe σ vs).set j (some x)) H1 (f d)) (he : ∀ x d H1, Ex H H1 → d ∈ ds → f d = true → Dt K H1 x d → EvD K te ((wipe σ vs).set j (some x)) H1 (g d)) :
    EvD K (tLc (iSeq K tl) (gName j) tt te vs) σ H (.list ((ds.filter f).map g)) := fun H1 e Q q => by
  refine .inr (.inl (h H1 e _ fun v H2 A gr hd => ?_))
  obtain ⟨a, xs, rfl, hs, hall⟩ := dp_tup hd
  refine ⟨a, rfl, ⟨xs, ex_t gr.d2 hs⟩, fun D hD => ?_⟩
  refine lc_tup (K := K) (a := a) (xs := xs) (fun i H' => Acc K A H2 D (((ds.take i).filter f).map g) H') (Acc.nil gr.d2 hD) (fun i H' _ p => ex_t (p.base) hs) (fun i x H' hi p => ?_) fun H' p => ?_
  · obtain ⟨d, hdi, hx⟩ := dpAll_of hall hi
    have hm : d ∈ ds := List.mem_of_getElem? hdi
    have hl := out_len (ds := ds) f g i
    refine ⟨hw x, ?_⟩
    rw [out_snoc f g hdi]
    exact lc_turn gr.d2 hD p (by omega) (ht x d A gr.xd hm hx) (fun hf => he x d A gr.xd hm hf hx)
  · have p2 : Acc K A H2 D (((ds.take xs.length).filter f).map g) H' := p
    rw [dpAll_len hall, List.take_length] at p2
    obtain ⟨Hd, g1, g2⟩ := p2.done gr.xd gr.fr gr.ex hD
    exact q _ H' Hd g1 g2
theorem evd_lcL {ds : List PyData} (f : PyData → Bool) (g : PyData → PyData) (h : EvD K tl σ H (.list ds)) (hz : ds.length ≤ 40000) (hw : ∀ x, wipe ((wipe σ vs).set j (some x)) vs = wipe σ vs)
    (ht : ∀ x d H1, Ex H H1 → d ∈ ds → Dt K H1 x d → EvT tt ((wipe σ vs).set j (some x)) H1 (f d)) (he : ∀ x d H1, Ex H H1 → d ∈ ds → f d = true → Dt K H1 x d → EvD K te ((wipe σ vs).set j (some x)) H1 (g d)) :
    EvD K (tLc (iSeq K tl) (gName j) tt te vs) σ H (.list ((ds.filter f).map g)) := fun H1 e Q q => by
  refine .inl (h H1 e _ fun v H2 A gr hd => ?_)
  obtain ⟨a, xs, rfl, hs, hall⟩ := dp_lst hd
  refine ⟨a, rfl, ⟨xs, sq_of (gr.d2 _ _ hs)⟩, fun D hD => ?_⟩
  refine lc_list (K := K) (a := a) (xs := xs) (fun i H' => Acc K A H2 D (((ds.take i).filter f).map g) H') (Acc.nil gr.d2 hD) (fun i H' _ p => sq_of (p.base _ _ hs)) (fun i x H' hi p => ?_) fun H' p => ?_
  · obtain ⟨d, hdi, hx⟩ := dpAll_of hall hi
    have hm : d ∈ ds := List.mem_of_getElem? hdi
    have hl := out_len (ds := ds) f g i
    refine ⟨hw x, ?_⟩
    rw [out_snoc f g hdi]
    exact lc_turn gr.d2 hD p (by omega) (ht x d A gr.xd hm hx) (fun hf => he x d A gr.xd hm hf hx)
  · have p2 : Acc K A H2 D (((ds.take xs.length).filter f).map g) H' := p
    rw [dpAll_len hall, List.take_length] at p2
    obtain ⟨Hd, g1, g2⟩ := p2.done gr.xd gr.fr gr.ex hD
    exact q _ H' Hd g1 g2
/-- over a range -/
theorem evd_lcR {ta : TA} {n : Nat} (g : Nat → PyData) (h : EvDs K ta σ H [.int (n : Int)]) (hz : n ≤ 40000) (hw : ∀ x, wipe ((wipe σ vs).set j (some x)) vs = wipe σ vs)
    (he : ∀ i H1, Ex H H1 → i < n → EvD K te ((wipe σ vs).set j (some (.int (i : Int)))) H1 (g i)) :
    EvD K (tLc (iRng1 ta) (gName j) tYes te vs) σ H (.list ((List.range n).map g)) := fun H1 e Q q => h H1 e _ fun ws H2 A gr hd => by
  obtain rfl : ws = [.int (n : Int)] := by
    cases hd with
    | cons h1 h2 => cases h2; rw [dp_int h1]
  refine ⟨n, rfl, by omega, by omega, fun D hD => ?_⟩
  refine lc_range (lo := 0) (n := (n : Int).toNat) (fun i H' => Acc K A H2 D ((List.range i).map g) H') (Acc.nil gr.d2 hD) (fun i H' hi p => ?_) fun H' p => ?_
  · have e0 : (0 : Int) + (i : Int) = (i : Int) := Int.zero_add _
    have hi2 : i < n := by omega
    have key := lc_turn (b := true) (tt := tYes) (te := te) (σ2 := (wipe σ vs).set j (some (.int (i : Int)))) gr.d2 hD p (by rw [List.length_map, List.length_range]; omega) (fun H1 _ _ q => q H1 (Ex.refl H1)) (fun _ => he i A gr.xd hi2)
    have e1 : (List.range (i + 1)).map g = (List.range i).map g ++ [g i] := by rw [List.range_succ, List.map_append] <;> rfl
    show gName j (.int ((0 : Int) + (i : Int))) (wipe σ vs) H' _
    rw [e0]
    refine ⟨hw _, ?_⟩
    rw [e1]
    exact key
  · have p2 : Acc K A H2 D ((List.range (n : Int).toNat).map g) H' := p
    rw [Int.toNat_natCast] at p2
    obtain ⟨Hd, g1, g2⟩ := p2.done gr.xd gr.fr gr.ex hD
    exact q _ H' Hd g1 g2
end
/-! ### a def by its name -/
/-- the module's x is a def that keeps sp -/
def Has (P : Program) (w : World) (K : Frag) (mg : Str → Option Value) (base : Heap) (CX : CXT) (k : Nat) (x : Str) (ps : List Str) (sp : Sp) : Prop :=
  ∃ f fd, FnOk P w K mg base CX k f fd ps sp ∧ Binds K fd ps [] ∧ PySem.W.keepIn K (.ref f) = true ∧ mg x = some (.ref f)
section
variable {X : Cx} {CX : CXT} {k j : Nat} {x : Str} {ps : List Str} {sp : Sp} {E : XK} {p pos : Pos} {e : Expr} {es : List Expr} {t : TA}
theorem pe_has (F : Has X.prog X.w X.K X.mg X.base CX k x ps sp) (hr : Room j X.A) (hk : k ≤ j) (hg : Gl X x) (hx : Passes CX X E) (ha : PA X (e :: es) t) (hdb : (x == ("__debug__" : Str)) = false := by decide)
    (he : starEach (e :: es) X.env = (false, eval e X.env) :: starEach es X.env := by rfl) (hpl : (backTo pos (starEach es X.env)).any (·.1) = false := by rfl) : PE X (.Call (.Name x p) (e :: es) [] pos) (tCall sp [] E t) := by
  obtain ⟨f, fd, G, b, kp, m⟩ := F
  exact pe_call G (hr.mono hk) hg m kp b .nil hx ha hdb he hpl
theorem pe_has0 (F : Has X.prog X.w X.K X.mg X.base CX k x ps sp) (hr : Room j X.A) (hk : k ≤ j) (hg : Gl X x) (hx : Passes CX X E) (hdb : (x == ("__debug__" : Str)) = false := by decide) : PE X (.Call (.Name x p) [] [] pos) (tCall sp [] E tNil) := by
  obtain ⟨f, fd, G, b, kp, m⟩ := F
  exact pe_call0 G (hr.mono hk) hg m kp b .nil hx hdb
end
end LC

namespace LC
open PySem L2 Evl
/-! ### the rules with the written part named (so that a block's reading does not speak of the block) -/
def freeN : List Str := ["len", "isinstance", "range", "tuple", "sorted", "set", "int", "str", "bool", "list", "min", "zip", "enumerate", "dict", "ValueError"]
structure Tx (mg : Str → Option Value) : Prop where
  free : ∀ {x : Str}, x ∈ freeN → mg x = none
abbrev rLenU (K : Frag) : List V → Hp → VK → Prop := fun xs H Q => ∃ x n, xs = [x] ∧ LenV K x H n ∧ Q (.int n) H
abbrev rTupU (K : Frag) : List V → Hp → VK → Prop := fun xs H Q => ∃ p ys, xs = [.ref p] ∧ ((SqL K H p ys ∧ ∀ l, H l = none → Q (.ref l) (upd H l (.tup ys))) ∨ (SqT K H p ys ∧ Q (.ref p) H))
abbrev rLstU (K : Frag) : List V → Hp → VK → Prop := fun xs H Q => ∃ p ys, xs = [.ref p] ∧ (SqL K H p ys ∨ SqT K H p ys) ∧ ∀ l, H l = none → Q (.ref l) (upd H l (.lst ys))
abbrev tTrU (K : Frag) (ta : TE) : TT := fun σ H Q => ta σ H fun x H' => ∃ k, TruV K x H' k ∧ Q k H'
section
variable {X : Cx} {K : Frag} {a : Expr} {ta : TE} {pos : Pos} {x : Str}
theorem kAdd (h : X.K = K) : OpR X (binaryOp .Add) (rAddU K) := h ▸ opAdd
theorem kMul (h : X.K = K) : OpR X (binaryOp .Mult) (rMulU K) := h ▸ opMul
theorem kIn (h : X.K = K) : OpR X (compareOp .In) (rInU K false) := h ▸ opIn
theorem kNotIn (h : X.K = K) : OpR X (compareOp .NotIn) (rInU K true) := h ▸ opNotIn
theorem kEq (h : X.K = K) (hu : X.A.units + 64 < cLine) : OpR X (compareOp .Eq) (rEqD K) := h ▸ op_eqD hu
theorem kNe (h : X.K = K) (hu : X.A.units + 64 < cLine) : OpR X (compareOp .NotEq) (rNeD K) := h ▸ op_neD hu
theorem kSl (h : X.K = K) : SlR X (rSlU K) := h ▸ slU
theorem kIx (h : X.K = K) : IxR X (rIx K) := h ▸ ix_seq
theorem kSeq {tg : Expr} (h : X.K = K) (he : PE X a ta) : PI X tg a (iSeq K ta) := h ▸ pi_seq he
theorem kLen (h : X.K = K) : CallR X (.builtin "len") (rLenU K) := h ▸ call_len
theorem kIsi (h : X.K = K) : CallR X (.builtin "isinstance") (rIsi K) := h ▸ call_isi
theorem kTup (h : X.K = K) : CallR X (.type "tuple") (rTupU K) := h ▸ call_tuple_of
theorem kLst (h : X.K = K) : CallR X (.type "list") (rLstU K) := h ▸ call_list_of
theorem kTruth (h : X.K = K) (ha : PE X a ta) (he : ∀ whole, isTrue a X.env whole = (do let v ← whole; standAt a.pos; holding [v] (truthy v)) := by intro _; rfl) : PT X a (tTrU K ta) := h ▸ pt_truth ha he
theorem kNot (h : X.K = K) (ha : PE X a ta) : PE X (.UnaryOp .Not a pos) (tNotT K ta) := h ▸ pe_notT ha
theorem pe_gint {i : Int} (h : ∃ t, X.mg x = some (.int i t)) (hg : Gl X x := by rfl) (hd : (x == ("__debug__" : Str)) = false := by decide) : PE X (.Name x pos) (tC (.int i)) := by
  obtain ⟨t, h⟩ := h
  exact pe_glob hg h ⟨t, rfl⟩ hd
theorem pe_gstr {z : Str} (h : ∃ t, X.mg x = some (.str z t)) (hg : Gl X x := by rfl) (hd : (x == ("__debug__" : Str)) = false := by decide) : PE X (.Name x pos) (tC (.str z)) := by
  obtain ⟨t, h⟩ := h
  exact pe_glob hg h ⟨t, rfl⟩ hd
theorem pe_gref {a : Addr} (h : X.mg x = some (.ref a)) (hg : Gl X x := by rfl) (hd : (x == ("__debug__" : Str)) = false := by decide) : PE X (.Name x pos) (tC (.ref a)) := pe_glob hg h rfl hd
end
end LC

namespace LC
open PySem L2 Evl
/-! ### more readings -/
/-- texts that are short (all of them are), deep down -/
def okD : PyData → Bool
  | .str s => decide (s.length ≤ 100000) && PyData.strOk s
  | .list ds => okAll ds
  | .tuple ds => okAll ds
  | .dict _ => false
  | _ => true
where okAll : List PyData → Bool
  | [] => true
  | d :: ds => okD d && okAll ds
theorem okAll_mem : ∀ {ds : List PyData} {d : PyData}, okD.okAll ds = true → d ∈ ds → okD d = true
  | [], _, _, h => by cases h
  | e :: ds, d, ho, h => by
    have h2 : (okD e && okD.okAll ds) = true := by
      unfold okD.okAll at ho
      exact ho
    rw [Bool.and_eq_true] at h2
    rcases List.mem_cons.mp h with rfl | h
    · exact h2.1
    · exact okAll_mem h2.2 h
theorem okAll_of : ∀ {ds : List PyData}, (∀ d ∈ ds, okD d = true) → okD.okAll ds = true
  | [], _ => by unfold okD.okAll; rfl
  | e :: ds, h => by
    unfold okD.okAll
    rw [Bool.and_eq_true]
    exact ⟨h e (List.mem_cons_self ..), okAll_of fun d hd => h d (List.mem_cons_of_mem _ hd)⟩
theorem ok_tup {ds : List PyData} (h : okD (.tuple ds) = true) {d : PyData} (hd : d ∈ ds) : okD d = true := okAll_mem (by unfold okD at h; exact h) hd
theorem ok_lst {ds : List PyData} (h : okD (.list ds) = true) {d : PyData} (hd : d ∈ ds) : okD d = true := okAll_mem (by unfold okD at h; exact h) hd
theorem ok_str {s : Str} (h : okD (.str s) = true) : s.length ≤ 100000 := by unfold okD at h; exact of_decide_eq_true (Bool.and_eq_true_iff.mp h).1
theorem shapedS {s : Str} (h : okD (.str s) = true) : SeqAt.shaped (.str s) = true := by
  unfold okD at h
  show (PyData.canLay0 (.str s) && decide (PyData.depth (.str s) ≤ 64)) = true
  unfold PyData.canLay0 PyData.depth
  rw [(Bool.and_eq_true_iff.mp h).2]
  rfl
theorem ok_sign {s : Str} (h : okD (.str s) = true) {c : Nat} (hc : c ∈ s.cps.toList) : okD (.str ⟨#[c]⟩) = true := by
  unfold okD at h ⊢
  have h2 := (Bool.and_eq_true_iff.mp h).2
  unfold PyData.strOk at h2 ⊢
  have h3 : c < 0x110000 := by
    rw [Array.all_eq_true'] at h2
    exact of_decide_eq_true (h2 c (Array.mem_def.mpr hc))
  rw [Bool.and_eq_true]
  exact ⟨rfl, by simp [h3]⟩
theorem ok_tup_of {ds : List PyData} (h : ∀ d ∈ ds, okD d = true) : okD (.tuple ds) = true := by unfold okD; exact okAll_of h
theorem ok_lst_of {ds : List PyData} (h : ∀ d ∈ ds, okD d = true) : okD (.list ds) = true := by unfold okD; exact okAll_of h
/-- truth -/
def truD : PyData → Bool
  | .none => false
  | .bool b => b
  | .int i => i != 0
  | .str s => (s.length : Int) != 0
  | .list ds => !ds.isEmpty
  | .tuple ds => !ds.isEmpty
  | .dict _ => false
section
variable {K : Frag} {σ : L2.St} {H H' : Hp} {ta tb tc te tx : TE} {t u : TT} {d e : PyData}
theorem empty_dp {vs : List V} {ds : List PyData} (h : DtAll K H vs ds) : (!ds.isEmpty) = !vs.isEmpty := by
  cases h <;> rfl
theorem tru_dp {v : V} (h : Dt K H v d) (ok : okD d = true) : TruV K v H (truD d) := by
  cases h with
  | non => rfl
  | bl b => rfl
  | int i => rfl
  | str x => exact ⟨sz_of (ok_str ok), rfl⟩
  | lst hs ha => exact .inl ⟨_, sq_of hs, empty_dp ha⟩
  | tup hs ha => exact .inr (.inl ⟨_, hs, empty_dp ha⟩)
theorem et_d (h : EvD K te σ H d) (ok : okD d = true) : EvT (tTrU K te) σ H (truD d) := fun H1 e Q q =>
  h H1 e _ fun v H2 Hd g hd => ⟨_, tru_dp (dp_ex g.d2 _ _ hd) ok, q H2 g.ex⟩
theorem et_b {b : Bool} (h : Ev te σ H (.bl b)) : EvT (tTrU K te) σ H b := fun H1 e Q q => h H1 e _ fun H2 e2 => ⟨b, rfl, q H2 e2⟩
theorem ev_notD (h : EvD K te σ H d) (ok : okD d = true) : Ev (tNotT K te) σ H (.bl (!truD d)) := fun H1 e Q q =>
  h H1 e _ fun v H2 Hd g hd => ⟨_, tru_dp (dp_ex g.d2 _ _ hd) ok, q H2 g.ex⟩
theorem ev_notB {b : Bool} (h : Ev te σ H (.bl b)) : Ev (tNotT K te) σ H (.bl (!b)) := fun H1 e Q q => h H1 e _ fun H2 e2 => ⟨b, rfl, q H2 e2⟩
/-- a < b < c of ints -/
theorem ev_chain {p q : Int → Int → Bool} {i j k : Int} (ha : EvD K ta σ H (.int i)) (hb : EvD K tb σ H (.int j)) (hc : EvD K tc σ H (.int k)) :
    Ev (tChain (rI0 fun i j => .bl (p i j)) (rI0 fun i j => .bl (q i j)) ta tb tc) σ H (.bl (p i j && q j k)) := fun H1 e Q hq =>
  ev_int ha H1 e _ fun H2 e2 => ev_int hb H2 (e.trans e2) _ fun H3 e3 => ⟨i, j, rfl, rfl, _, rfl, by
    cases hp : p i j with
    | true =>
      show tc σ H3 _
      refine ev_int hc H3 ((e.trans e2).trans e3) _ fun H4 e4 => ⟨j, k, rfl, rfl, ?_⟩
      have := hq H4 ((e2.trans e3).trans e4)
      rw [hp] at this
      exact this
    | false =>
      show Q (.bl false) H3
      have := hq H3 (e2.trans e3)
      rw [hp] at this
      exact this⟩
theorem et_chain {p q : Int → Int → Bool} {i j k : Int} (ha : EvD K ta σ H (.int i)) (hb : EvD K tb σ H (.int j)) (hc : EvD K tc σ H (.int k)) :
    EvT (tTest (tChain (rI0 fun i j => .bl (p i j)) (rI0 fun i j => .bl (q i j)) ta tb tc)) σ H (p i j && q j k) := et_test (ev_chain ha hb hc)
/-- int(flag), int(n) -/
theorem ev_intB {b : Bool} (h : Ev te σ H (.bl b)) : Ev (tCB (fun xs H Q => (∃ i, xs = [.int i] ∧ Q (.int i) H) ∨ ∃ k, xs = [.bl k] ∧ Q (.int (if k then 1 else 0)) H) (tCons te tNil)) σ H (.int (if b then 1 else 0)) := fun H1 e Q q =>
  h H1 e _ fun H2 e2 => .inr ⟨b, rfl, q H2 e2⟩
/-- tuple(list) -/
theorem evd_tupL {ds : List PyData} (h : EvD K te σ H (.list ds)) : EvD K (tCB (rTupU K) (tCons te tNil)) σ H (.tuple ds) := fun H1 e Q q =>
  h H1 e _ fun v H2 A g hd => by
    obtain ⟨a, xs, rfl, hs, hall⟩ := dp_lst hd
    exact ⟨a, xs, rfl, .inl ⟨sq_of (g.d2 _ _ hs), fun l hl => q _ _ _ (g.new _ hl) (.tup (st_of upd_same) (dpAll_ex (Ex.new (fresh_back g.d2 hl)) _ _ hall))⟩⟩
theorem evd_lstT {ds : List PyData} (h : EvD K te σ H (.tuple ds)) : EvD K (tCB (rLstU K) (tCons te tNil)) σ H (.list ds) := fun H1 e Q q =>
  h H1 e _ fun v H2 A g hd => by
    obtain ⟨a, xs, rfl, hs, hall⟩ := dp_tup hd
    exact ⟨a, xs, rfl, .inr (ex_t g.d2 hs), fun l hl => q _ _ _ (g.new _ hl) (.lst upd_same (dpAll_ex (Ex.new (fresh_back g.d2 hl)) _ _ hall))⟩
theorem evd_lstL {ds : List PyData} (h : EvD K te σ H (.list ds)) : EvD K (tCB (rLstU K) (tCons te tNil)) σ H (.list ds) := fun H1 e Q q =>
  h H1 e _ fun v H2 A g hd => by
    obtain ⟨a, xs, rfl, hs, hall⟩ := dp_lst hd
    exact ⟨a, xs, rfl, .inl (sq_of (g.d2 _ _ hs)), fun l hl => q _ _ _ (g.new _ hl) (.lst upd_same (dpAll_ex (Ex.new (fresh_back g.d2 hl)) _ _ hall))⟩
/-- a constant tuple of the module -/
theorem evd_ref {a : Addr} (h : Dt K H (.ref a) d) : EvD K (tC (.ref a)) σ H d := evd_of ev_c h
/-- a comprehension over a text's signs -/
theorem evd_lcS {tl : TE} {tt : TT} {j : Nat} {vs : List Nat} {x : Str} (f : Nat → Bool) (g : Nat → PyData) (h : EvD K tl σ H (.str x)) (hz : x.length ≤ 40000) (hw : ∀ x, wipe ((wipe σ vs).set j (some x)) vs = wipe σ vs)
    (ht : ∀ c H1, Ex H H1 → c ∈ x.cps.toList → EvT tt ((wipe σ vs).set j (some (.str ⟨#[c]⟩))) H1 (f c)) (he : ∀ c H1, Ex H H1 → c ∈ x.cps.toList → f c = true → EvD K te ((wipe σ vs).set j (some (.str ⟨#[c]⟩))) H1 (g c)) :
    EvD K (tLc (iSeq K tl) (gName j) tt te vs) σ H (.list ((x.cps.toList.filter f).map g)) := fun H1 e Q q => by
  refine .inr (.inr (h H1 e _ fun v H2 A gr hd => ⟨x, dp_str hd, fun D hD => ?_⟩))
  have hlen : x.cps.size = x.cps.toList.length := by simp
  have hz2 : x.cps.toList.length ≤ 40000 := by rw [← hlen]; exact hz
  refine ⟨fun i m H' => m = x.cps.size - i ∧ i ≤ x.cps.size ∧ Acc K A H2 D (((x.cps.toList.take i).filter f).map g) H', ⟨x.cps.size, by simp, Nat.zero_le _, Acc.nil gr.d2 hD⟩, ?_⟩
  rintro i m H' ⟨rfl, hi, p⟩
  by_cases hlt : i < x.cps.size
  · refine .inr ⟨hlt, fun H'' => Acc K A H2 D (((x.cps.toList.take (i + 1)).filter f).map g) H'', fun H'' p' => ⟨x.cps.size - (i + 1), by omega, rfl, hlt, p'⟩, ?_⟩
    rintro y H'' ⟨rfl, c, hc, rfl⟩
    have hc2 : x.cps.toList[i]? = some c := by rw [Array.getElem?_toList]; exact hc
    have hm : c ∈ x.cps.toList := List.mem_of_getElem? hc2
    have e1 : ((x.cps.toList.take (i + 1)).filter f).map g = if f c then ((x.cps.toList.take i).filter f).map g ++ [g c] else ((x.cps.toList.take i).filter f).map g := by
      rw [List.take_add_one, hc2, Option.toList, List.filter_append, List.map_append]
      cases q : f c with
      | true => simp [q]
      | false => simp [q]
    refine ⟨hw _, ?_⟩
    rw [e1]
    refine lc_turn gr.d2 hD p ?_ (ht c A gr.xd hm) (fun hf => he c A gr.xd hm hf)
    rw [List.length_map]
    have := List.length_filter_le f (x.cps.toList.take i)
    rw [List.length_take] at this
    omega
  · refine .inl ⟨by show x.cps.size ≤ i; omega, ?_⟩
    have ei : i = x.cps.toList.length := by omega
    subst ei
    rw [List.take_length] at p
    obtain ⟨Hd, g1, g2⟩ := p.done gr.xd gr.fr gr.ex hD
    exact q _ H' Hd g1 g2
end
end LC

namespace LC
open PySem L2 Evl
/-! ### sources: what the defs compute, over plain data -/
def smallS : Str := "abcdefghijklmnopqrstuvwxyz"
def wordsS : List Str := ["add", "less", "times", "over", "same"]
def barredS : List Str := ["add", "less", "times", "over", "same", "if", "set", "show"]
def isWithin (d : PyData) (lo hi : Int) : Bool := match d with
  | .int i => decide (lo ≤ i) && decide (i ≤ hi)
  | _ => false
def nameS (s : Str) : Bool := (decide (1 ≤ s.length) && decide (s.length ≤ 4)) && (!decide (s ∈ barredS) && s.cps.toList.all fun c => decide (c ∈ smallS.cps.toList))
def isName : PyData → Bool
  | .str s => nameS s
  | _ => false
def sumHead (w : Str) (n : Nat) : Bool := decide (w ∈ wordsS) && n == 3 || decide (w = "if") && n == 4
def isSum : Nat → PyData → Bool
  | _, .str s => nameS s
  | n + 1, .tuple (.str w :: r) => sumHead w (r.length + 1) && r.all (isSum n)
  | _, .tuple _ => false
  | _, d => isWithin d 0 9999
def isRow : PyData → Bool
  | .tuple [.str w, a] => decide (w = "show") && isSum 6 a
  | .tuple [.str w, x, a] => decide (w = "set") && (isName x && isSum 6 a)
  | _ => false
def isSource : PyData → Bool
  | .tuple rs => decide (rs.length ≤ 8) && rs.all isRow
  | _ => false
theorem inD_str {s : Str} : ∀ {l : List Str}, inD (.str s) (l.map PyData.str) = decide (s ∈ l)
  | [] => by simp [inD]
  | x :: l => by
    have ih := inD_str (s := s) (l := l)
    show (PyData.eqv (.str x) (.str s) || inD (.str s) (l.map PyData.str)) = decide (s ∈ x :: l)
    rw [ih]
    show ((x == s) || decide (s ∈ l)) = decide (s ∈ x :: l)
    by_cases h : s = x
    · subst h; simp
    · have h2 : (x == s) = false := by simpa using fun z => h z.symm
      rw [h2, Bool.false_or]
      by_cases q : s ∈ l
      · simp [q]
      · simp [q, h]
theorem flat_strs (l : List Str) : (l.map PyData.str).all flatD = true := by
  rw [List.all_map]
  simp [flatD, Function.comp_def]
/-- the shapes of data: what the tests on a sum look at -/
theorem isSum_nontup {n : Nat} {d : PyData} (h1 : isT d "str" = false) (h2 : isT d "tuple" = false) : isSum n d = isWithin d 0 9999 := by
  cases d with
  | str s => simp [isT, tyN] at h1
  | tuple ds => simp [isT, tyN] at h2
  | _ => cases n <;> simp [isSum]
theorem isT_str {d : PyData} (h : isT d "str" = true) : ∃ s, d = .str s := by
  cases d <;> simp [isT, tyN] at h
  exact ⟨_, rfl⟩
theorem isT_tup {d : PyData} (h : isT d "tuple" = true) : ∃ ds, d = .tuple ds := by
  cases d <;> simp [isT, tyN] at h
  exact ⟨_, rfl⟩
theorem within_eq (d : PyData) (lo hi : Int) : (isT d "int" && (!isT d "bool" && isWithin d lo hi)) = isWithin d lo hi := by
  cases d <;> simp [isT, tyN, isWithin]
def F_is_within (ds : List PyData) (d : PyData) : Prop := ∃ x lo hi, ds = [x, .int lo, .int hi] ∧ d = .bool (isWithin x lo hi)
def F_is_name (ds : List PyData) (d : PyData) : Prop := ∃ x, ds = [x] ∧ okD x = true ∧ d = .bool (isName x)
def F_is_sum (n : Nat) (ds : List PyData) (d : PyData) : Prop := ∃ x, ds = [x, .int (n : Int)] ∧ okD x = true ∧ d = .bool (isSum n x)
def F_is_row (ds : List PyData) (d : PyData) : Prop := ∃ x, ds = [x] ∧ okD x = true ∧ d = .bool (isRow x)
def F_is_source (ds : List PyData) (d : PyData) : Prop := ∃ x, ds = [x] ∧ okD x = true ∧ d = .bool (isSource x)
theorem dts1 {K : Frag} {H : Hp} {vs : List V} {a : PyData} (h : DtAll K H vs [a]) : ∃ x, vs = [x] ∧ Dt K H x a := by
  cases h with
  | cons h1 h2 => cases h2; exact ⟨_, rfl, h1⟩
theorem dts2 {K : Frag} {H : Hp} {vs : List V} {a b : PyData} (h : DtAll K H vs [a, b]) : ∃ x y, vs = [x, y] ∧ Dt K H x a ∧ Dt K H y b := by
  cases h with
  | cons h1 h2 =>
    obtain ⟨y, rfl, hy⟩ := dts1 h2
    exact ⟨_, _, rfl, h1, hy⟩
theorem dts3 {K : Frag} {H : Hp} {vs : List V} {a b c : PyData} (h : DtAll K H vs [a, b, c]) : ∃ x y z, vs = [x, y, z] ∧ Dt K H x a ∧ Dt K H y b ∧ Dt K H z c := by
  cases h with
  | cons h1 h2 =>
    obtain ⟨y, z, rfl, hy, hz⟩ := dts2 h2
    exact ⟨_, _, _, rfl, h1, hy, hz⟩
end LC
namespace LC
open PySem L2 Evl
theorem cut_tail (w : PyData) (r : List PyData) : cutD (w :: r) (some 1) none = r := by
  unfold cutD
  have e1 : HT.sIx (w :: r).length 0 (some 1) = 1 := by
    have := HT.sIx_nat (w :: r).length 0 1
    rw [show ((1 : Nat) : Int) = 1 from rfl] at this
    rw [this]
    simp
  rw [e1, HT.sIx_none]
  simp
end LC
namespace LC
open PySem L2 Evl
theorem atI_0 {α : Type} (w : α) (r : List α) : atI (w :: r) 0 = some w := by simp [atI, ixN]
theorem atI_1 {α : Type} (w z : α) (r : List α) : atI (w :: z :: r) 1 = some z := by
  have h : (1 : Int) < ((r.length + 1 + 1 : Nat) : Int) := by omega
  simp [atI, ixN]
  rw [if_pos (by omega)]
  rfl
theorem atI_2 {α : Type} (w z y : α) (r : List α) : atI (w :: z :: y :: r) 2 = some y := by
  simp [atI, ixN]
  rw [if_pos (by omega)]
  rfl
end LC

namespace LC
open PySem PySem.Spec PyProof.Rows L2 Evl
abbrev FnP (K : Frag) (x q : Str) (st : Stmt) (f : Addr) (fd : FuncData) : Prop := FunD K x q (defArgs st) (defBody st) (defScope st) [] [] f fd
section
variable {P : Program} {w : World} {K : Frag} {mg : Str → Option Value} {base : Heap} {x q : Str} {st : Stmt} {f : Addr} {fd : FuncData} {N ps : List Str} {k : Nat}
/-- a def over data -/
theorem has_d {FF : List PyData → PyData → Prop} (F : FnP K x q st f fd) (g : mg x = some (.ref f)) (b : Binds K fd ps []) (S : FnScope N ps (defScope st)) (hl : ∀ ds d, FF ds d → ds.length = ps.length)
    (hbody : ∀ (cdv : Value) (A : Around) (outer : List Env) (s : Shared) (H : Hp) (vs : List V) (Q : VK) (E : XK) (ds : List PyData) (d : PyData) (H0 : Hp), Room k (A.deeper (envOfC q (defScope st) s.heap.objs.size f cdv)) →
      Ex H0 H → DtAll K H0 vs ds → FF ds d → (∀ v H2 Hd, Gr H0 H H2 Hd → Dt K Hd v d → Q v H2) →
      ∃ t, PSs (cxOf CX0 P w K mg base N q (defScope st) f cdv A outer s H E).nox (defBody st) t ∧ t { nx := fun _ H' => Q .non H', rt := Q } (start N vs) H) : Has P w K mg base CX0 (k + 1) x ps (spD K FF) := by
  refine ⟨f, fd, F.ok S (fun vs H Q E h => ?_) (fun cdv A outer s H vs Q E hr h => ?_), b, F.kp, g⟩
  · obtain ⟨ds, d, H0, _, hd, hf, _⟩ := h
    rw [dpAll_len hd]
    exact hl ds d hf
  · obtain ⟨ds, d, H0, e, hd, hf, hq⟩ := h
    obtain ⟨t, ht, r⟩ := hbody cdv A outer s H vs Q E ds d H0 hr e hd hf hq
    exact ⟨t, PSs.nox ht, r⟩
end
end LC
namespace LC
open PySem PySem.Spec PyProof.Rows L2 Evl
section
variable {K : Frag} {H0 H H1 : Hp} {d : PyData} {Q : VK} {σ : L2.St} {t : TT} {tu tw : TS} {D : Ends} {te : TE}
/-- what is wanted of a def's answer -/
abbrev Rt (K : Frag) (H0 H : Hp) (d : PyData) (Q : VK) : Prop := ∀ v H2 Hd, Gr H0 H H2 Hd → Dt K Hd v d → Q v H2
theorem Rt.go (k : Rt K H0 H d Q) (e : Ex H H1) : Rt K H0 H1 d Q := fun v H2 Hd g => k v H2 Hd (g.after e)
theorem s_yes (h : EvT t σ H0 true) (x : Ex H0 H) (k : ∀ H1, Ex H H1 → tu D σ H1) : tIfS t tu tw D σ H := s_ifD h x (fun _ => k) fun z => nomatch z
theorem s_nay (h : EvT t σ H0 false) (x : Ex H0 H) (k : ∀ H1, Ex H H1 → tw D σ H1) : tIfS t tu tw D σ H := s_ifD h x (fun z => nomatch z) fun _ => k
theorem Rt.ret {d' : PyData} (k : Rt K H0 H d D.rt) (x : Ex H0 H) (h : EvD K te σ H0 d') (e : d' = d) : tRet te D σ H := s_retD (evd_is h e) x k
end
section
variable {P : Program} {w : World} {K : Frag} {mg : Str → Option Value} {base : Heap} {x q : Str} {st : Stmt} {f : Addr} {fd : FuncData} {N ps : List Str} {k : Nat} {CX : CXT}
/-- a def that is not called -/
theorem has_never (F : FnP K x q st f fd) (g : mg x = some (.ref f)) (b : Binds K fd ps []) (FF : List PyData → PyData → Prop) (hn : ∀ ds d, ¬ FF ds d) : Has P w K mg base CX k x ps (spD K FF) :=
  ⟨f, fd, ⟨fun vs H Q E h => by
    obtain ⟨ds, d, H0, _, _, hf, _⟩ := h
    exact (hn ds d hf).elim, fun A outer s H args us vs Q E _ _ _ _ h => by
    obtain ⟨ds, d, H0, _, _, hf, _⟩ := h
    exact (hn ds d hf).elim⟩, b, F.kp, g⟩
/-- what a def promises one level less deep -/
def Fprev (F : Nat → List PyData → PyData → Prop) : Nat → List PyData → PyData → Prop
  | 0 => fun _ _ => False
  | n + 1 => F n
end
end LC

namespace LC
open PySem L2 Evl
/-! ### sums, rows, sources as trees -/
inductive Sm where
  | num (i : Int)
  | nm (x : Str)
  | op (w : Str) (a b : Sm)
  | ite (a b c : Sm)
  deriving DecidableEq
inductive Rw where
  | set (x : Str) (s : Sm)
  | shw (s : Sm)
  deriving DecidableEq
abbrev Src := List Rw
def Sm.enc : Sm → PyData
  | .num i => .int i
  | .nm x => .str x
  | .op w a b => .tuple [.str w, a.enc, b.enc]
  | .ite a b c => .tuple [.str "if", a.enc, b.enc, c.enc]
def Rw.enc : Rw → PyData
  | .set x s => .tuple [.str "set", .str x, s.enc]
  | .shw s => .tuple [.str "show", s.enc]
def encS (src : Src) : PyData := .tuple (src.map Rw.enc)
def Sm.depth : Sm → Nat
  | .num _ => 0
  | .nm _ => 0
  | .op _ a b => max a.depth b.depth + 1
  | .ite a b c => max a.depth (max b.depth c.depth) + 1
def Sm.good : Sm → Bool
  | .num i => decide (0 ≤ i) && decide (i ≤ 9999)
  | .nm x => nameS x
  | .op w a b => decide (w ∈ wordsS) && (a.good && b.good)
  | .ite a b c => a.good && (b.good && c.good)
def Rw.sum : Rw → Sm
  | .set _ s => s
  | .shw s => s
def Rw.good : Rw → Bool
  | .set x s => nameS x && (s.good && decide (s.depth ≤ 6))
  | .shw s => s.good && decide (s.depth ≤ 6)
def goodS (src : Src) : Bool := decide (src.length ≤ 8) && src.all Rw.good
theorem noIf : ¬ (("if" : Str) ∈ wordsS) := by decide +kernel
theorem isSum_enc : ∀ (s : Sm) (n : Nat), s.good = true → s.depth ≤ n → isSum n s.enc = true
  | .num i, n, h, _ => by
    have h : (decide (0 ≤ i) && decide (i ≤ 9999)) = true := h
    cases n <;> exact h
  | .nm x, n, h, _ => by cases n <;> exact h
  | .op w a b, n, h, hd => by
    have h : (decide (w ∈ wordsS) && (a.good && b.good)) = true := h
    simp only [Bool.and_eq_true] at h
    have hd : max a.depth b.depth + 1 ≤ n := hd
    cases n with
    | zero => omega
    | succ n =>
      show (sumHead w 3 && [a.enc, b.enc].all (isSum n)) = true
      have e : sumHead w 3 = true := by
        unfold sumHead
        rw [h.1]
        rfl
      rw [e, Bool.true_and]
      simp only [List.all_cons, List.all_nil, Bool.and_true, Bool.and_eq_true]
      exact ⟨isSum_enc a n h.2.1 (by omega), isSum_enc b n h.2.2 (by omega)⟩
  | .ite a b c, n, h, hd => by
    have h : (a.good && (b.good && c.good)) = true := h
    simp only [Bool.and_eq_true] at h
    have hd : max a.depth (max b.depth c.depth) + 1 ≤ n := hd
    cases n with
    | zero => omega
    | succ n =>
      show (sumHead "if" 4 && [a.enc, b.enc, c.enc].all (isSum n)) = true
      have e : sumHead "if" 4 = true := by decide +kernel
      rw [e, Bool.true_and]
      simp only [List.all_cons, List.all_nil, Bool.and_true, Bool.and_eq_true]
      exact ⟨isSum_enc a n h.1 (by omega), isSum_enc b n h.2.1 (by omega), isSum_enc c n h.2.2 (by omega)⟩
theorem isRow_enc (r : Rw) (h : r.good = true) : isRow r.enc = true := by
  cases r with
  | set x s =>
    have h : (nameS x && (s.good && decide (s.depth ≤ 6))) = true := h
    simp only [Bool.and_eq_true, decide_eq_true_eq] at h
    show (decide (("set" : Str) = "set") && (isName (.str x) && isSum 6 s.enc)) = true
    rw [isSum_enc s 6 h.2.1 h.2.2]
    show (decide (("set" : Str) = "set") && (nameS x && true)) = true
    rw [h.1]
    decide
  | shw s =>
    have h : (s.good && decide (s.depth ≤ 6)) = true := h
    simp only [Bool.and_eq_true, decide_eq_true_eq] at h
    show (decide (("show" : Str) = "show") && isSum 6 s.enc) = true
    rw [isSum_enc s 6 h.1 h.2]
    decide
theorem isSource_enc (src : Src) (h : goodS src = true) : isSource (encS src) = true := by
  unfold goodS at h
  simp only [Bool.and_eq_true, decide_eq_true_eq, List.all_eq_true] at h
  show (decide ((src.map Rw.enc).length ≤ 8) && (src.map Rw.enc).all isRow) = true
  rw [List.length_map, List.all_map]
  simp only [Bool.and_eq_true, decide_eq_true_eq, List.all_eq_true]
  exact ⟨h.1, fun r hr => isRow_enc r (h.2 r hr)⟩
/-! names are short and plain -/
theorem sm_small {c : Nat} (h : c ∈ smallS.cps.toList) : c < 128 := by
  have q : smallS.cps.toList.all (fun c => decide (c < 128)) = true := by decide +kernel
  exact of_decide_eq_true (List.all_eq_true.mp q c h)
theorem ok_of_name {x : Str} (h : nameS x = true) : okD (.str x) = true := by
  unfold nameS at h
  simp only [Bool.and_eq_true, decide_eq_true_eq, List.all_eq_true] at h
  unfold okD PyData.strOk
  rw [Bool.and_eq_true, Array.all_eq_true']
  refine ⟨decide_eq_true (by omega), fun c hc => decide_eq_true ?_⟩
  have := sm_small (h.2.2 c (Array.mem_def.mp hc))
  omega
theorem ok_word {w : Str} (h : w ∈ wordsS) : okD (.str w) = true := by
  have q : wordsS.all (fun w => okD (.str w)) = true := by decide +kernel
  exact List.all_eq_true.mp q w h
theorem ok_if : okD (.str "if") = true := by decide +kernel
theorem ok_set : okD (.str "set") = true := by decide +kernel
theorem ok_show : okD (.str "show") = true := by decide +kernel
theorem ok_int (i : Int) : okD (.int i) = true := rfl
theorem ok_sum : ∀ (s : Sm), s.good = true → okD s.enc = true
  | .num i, _ => rfl
  | .nm x, h => ok_of_name h
  | .op w a b, h => by
    have h : (decide (w ∈ wordsS) && (a.good && b.good)) = true := h
    simp only [Bool.and_eq_true, decide_eq_true_eq] at h
    refine ok_tup_of fun d hd => ?_
    simp only [List.mem_cons, List.not_mem_nil, or_false] at hd
    rcases hd with rfl | rfl | rfl
    · exact ok_word h.1
    · exact ok_sum a h.2.1
    · exact ok_sum b h.2.2
  | .ite a b c, h => by
    have h : (a.good && (b.good && c.good)) = true := h
    simp only [Bool.and_eq_true] at h
    refine ok_tup_of fun d hd => ?_
    simp only [List.mem_cons, List.not_mem_nil, or_false] at hd
    rcases hd with rfl | rfl | rfl | rfl
    · exact ok_if
    · exact ok_sum a h.1
    · exact ok_sum b h.2.1
    · exact ok_sum c h.2.2
theorem Rw.good_sum {r : Rw} (h : r.good = true) : r.sum.good = true ∧ r.sum.depth ≤ 6 := by
  cases r with
  | set x s =>
    have h : (nameS x && (s.good && decide (s.depth ≤ 6))) = true := h
    simp only [Bool.and_eq_true, decide_eq_true_eq] at h
    exact h.2
  | shw s =>
    have h : (s.good && decide (s.depth ≤ 6)) = true := h
    simp only [Bool.and_eq_true, decide_eq_true_eq] at h
    exact h
theorem ok_row (r : Rw) (h : r.good = true) : okD r.enc = true := by
  cases r with
  | set x s =>
    have h : (nameS x && (s.good && decide (s.depth ≤ 6))) = true := h
    simp only [Bool.and_eq_true, decide_eq_true_eq] at h
    refine ok_tup_of fun d hd => ?_
    simp only [List.mem_cons, List.not_mem_nil, or_false] at hd
    rcases hd with rfl | rfl | rfl
    · exact ok_set
    · exact ok_of_name h.1
    · exact ok_sum s h.2.1
  | shw s =>
    have h : (s.good && decide (s.depth ≤ 6)) = true := h
    simp only [Bool.and_eq_true, decide_eq_true_eq] at h
    refine ok_tup_of fun d hd => ?_
    simp only [List.mem_cons, List.not_mem_nil, or_false] at hd
    rcases hd with rfl | rfl
    · exact ok_show
    · exact ok_sum s h.1
theorem goodS_row {src : Src} (h : goodS src = true) {r : Rw} (hr : r ∈ src) : r.good = true := by
  unfold goodS at h
  simp only [Bool.and_eq_true, List.all_eq_true] at h
  exact h.2 r hr
theorem goodS_len {src : Src} (h : goodS src = true) : src.length ≤ 8 := by
  unfold goodS at h
  simp only [Bool.and_eq_true, decide_eq_true_eq] at h
  exact h.1
theorem ok_src (src : Src) (h : goodS src = true) : okD (encS src) = true := by
  refine ok_tup_of fun d hd => ?_
  obtain ⟨r, hr, rfl⟩ := List.mem_map.mp hd
  exact ok_row r (goodS_row h hr)
/-! names in sums; what a source sets and reads -/
def Sm.names : Sm → List Str
  | .num _ => []
  | .nm x => [x]
  | .op _ a b => a.names ++ b.names
  | .ite a b c => a.names ++ (b.names ++ c.names)
def Rw.sets : Rw → List Str
  | .set x _ => [x]
  | .shw _ => []
def setsOf (src : Src) : List Str := src.flatMap Rw.sets
/-- found, mine -/
def readsGo (acc : List Str × List Str) (r : Rw) : List Str × List Str :=
  (r.sum.names.foldl (fun f x => if x ∈ acc.2 ∨ x ∈ f then f else f ++ [x]) acc.1, acc.2 ++ r.sets)
def readsOf (src : Src) : List Str := (src.foldl readsGo ([], [])).1
theorem names_len : ∀ (s : Sm), s.names.length ≤ 3 ^ s.depth
  | .num _ => by simp [Sm.names]
  | .nm _ => by simp [Sm.names, Sm.depth]
  | .op w a b => by
    have h1 := names_len a
    have h2 := names_len b
    show (a.names ++ b.names).length ≤ 3 ^ (max a.depth b.depth + 1)
    rw [List.length_append, Nat.pow_succ]
    have m1 : 3 ^ a.depth ≤ 3 ^ max a.depth b.depth := Nat.pow_le_pow_right (by omega) (by omega)
    have m2 : 3 ^ b.depth ≤ 3 ^ max a.depth b.depth := Nat.pow_le_pow_right (by omega) (by omega)
    omega
  | .ite a b c => by
    have h1 := names_len a
    have h2 := names_len b
    have h3 := names_len c
    show (a.names ++ (b.names ++ c.names)).length ≤ 3 ^ (max a.depth (max b.depth c.depth) + 1)
    rw [List.length_append, List.length_append, Nat.pow_succ]
    have m1 : 3 ^ a.depth ≤ 3 ^ max a.depth (max b.depth c.depth) := Nat.pow_le_pow_right (by omega) (by omega)
    have m2 : 3 ^ b.depth ≤ 3 ^ max a.depth (max b.depth c.depth) := Nat.pow_le_pow_right (by omega) (by omega)
    have m3 : 3 ^ c.depth ≤ 3 ^ max a.depth (max b.depth c.depth) := Nat.pow_le_pow_right (by omega) (by omega)
    omega
end LC

namespace LC
open PySem PySem.Spec PyProof.Rows L2 Evl
/-! ### statements over data: a list that grows, a for over a tuple -/
section
variable {K : Frag} {A H Hs H' : Hp} {p : Addr} {out ds : List PyData} {d : PyData} {σ : L2.St} {te tl : TE} {i : Nat} {D : Ends} {g : TG} {tu : TS}
theorem s_new {ta : TA} (h : EvDs K ta σ A []) (x : Ex A H) (k : ∀ p H1, H p = none → Acc K A H p [] H1 → D.nx (σ.set i (some (.ref p))) H1) : tAsg (tLst ta) (gName i) D σ H := h H x _ fun vs H2 Hd gr hd => by
  cases hd
  exact ⟨Nat.zero_le _, fun p hp => k p _ (fresh_back gr.ex hp) (Acc.start x (gr.ex.trans (Ex.new hp)) (fresh_back gr.ex hp) upd_same)⟩
theorem s_ext (hs : σ[i]? = some (some (.ref p))) (a : Acc K A Hs p out H) (hA : A p = none) (hD : Hs p = none) (h : EvD K te σ A (.list ds)) (hl : out.length + ds.length ≤ 100000)
    (k : ∀ H', Acc K A Hs p (out ++ ds) H' → (∀ Hd, Ex Hd H → Hd p = none → Ex Hd H') → D.nx σ H') : tDrop (tBM K "list" rExtend (tVar i) (tCons te tNil)) D σ H := by
  obtain ⟨acc, h1, h2⟩ := a.at
  refine ⟨.ref p, hs, .inl ⟨rfl, acc, sq_of h1⟩, h H a.base _ fun v H2 C gr hd => ?_⟩
  obtain ⟨b, zs, rfl, hb, hall⟩ := dp_lst hd
  obtain ⟨acc', e1, e2, e3⟩ := a.push' hA hD gr hall
  exact ⟨p, b, acc', zs, rfl, rfl, e1, gr.d2 _ _ hb, by rw [e2, dpAll_len hall]; exact sz_of hl, k _ e3 fun Hd x n => ex_upd (x.trans gr.ex) n⟩
theorem s_app (hs : σ[i]? = some (some (.ref p))) (a : Acc K A Hs p out H) (hA : A p = none) (hD : Hs p = none) (h : EvD K te σ A d) (hl : out.length < 100000)
    (k : ∀ H', Acc K A Hs p (out ++ [d]) H' → (∀ Hd, Ex Hd H → Hd p = none → Ex Hd H') → D.nx σ H') : tDrop (tBM K "list" rAppend (tVar i) (tCons te tNil)) D σ H := by
  obtain ⟨acc, h1, h2⟩ := a.at
  refine ⟨.ref p, hs, .inl ⟨rfl, acc, sq_of h1⟩, h H a.base _ fun v H2 C gr hd => ?_⟩
  obtain ⟨acc', e1, e2, e3⟩ := a.push hA hD gr hd
  exact ⟨p, acc', v, rfl, rfl, e1, sz_lt (by omega), k _ e3 fun Hd x n => ex_upd (x.trans gr.ex) n⟩
/-- the list that was filled, as data -/
theorem Acc.var (a : Acc K A Hs p out H) : ∃ Hd, Ex Hd H ∧ Dt K Hd (.ref p) (.list out) := by
  obtain ⟨x, B, acc, h1, h2, h3, h4, h5, h6⟩ := a
  refine ⟨upd B p (.lst acc), fun b u q => ?_, .lst upd_same (dpAll_ex (Ex.new h4) _ _ h6)⟩
  by_cases e : b = p
  · subst e
    rw [upd_same] at q
    cases q
    exact h1
  · rw [upd_ne e] at q
    exact h3 b u q
theorem Acc.here (a : Acc K A Hs p out H) : Dt K H (.ref p) (.list out) := by
  obtain ⟨Hd, x, h⟩ := a.var
  exact dp_ex x _ _ h
theorem s_forT (h : EvD K tl σ A (.tuple ds)) (x : Ex A H)
    (k : ∀ H1 Hd, Gr A H H1 Hd → ∃ Pv : Nat → L2.St → Hp → Prop, Pv 0 σ H1 ∧ (∀ i σ' H', Pv i σ' H' → Ex Hd H') ∧
      (∀ i v d σ' H', ds[i]? = some d → Dt K Hd v d → Pv i σ' H' → g v σ' H' fun σ2 H2 => tu { D with nx := Pv (i + 1), ct := Pv (i + 1), bk := D.nx } σ2 H2) ∧ ∀ σ' H', Pv ds.length σ' H' → D.nx σ' H') : tFor (iSeq K tl) g tu D σ H := by
  refine .inr (.inl (h H x _ fun v H1 Hd gr hd => ?_))
  obtain ⟨a, xs, rfl, hs, hall⟩ := dp_tup hd
  obtain ⟨Pv, p0, pb, ps, pe⟩ := k H1 Hd gr
  refine ⟨a, rfl, ⟨xs, ex_t gr.d2 hs⟩, for_tup (K := K) (a := a) (xs := xs) Pv p0 (fun i σ' H' _ q => ex_t (pb i σ' H' q) hs) (fun i y σ' H' hi q => ?_) fun σ' H' q => pe σ' H' (by rw [← dpAll_len hall]; exact q)⟩
  obtain ⟨d, hdi, hx⟩ := dpAll_of hall hi
  exact ps i y d σ' H' hdi hx q
theorem s_forL (h : EvD K tl σ A (.list ds)) (x : Ex A H)
    (k : ∀ H1 Hd, Gr A H H1 Hd → ∃ Pv : Nat → L2.St → Hp → Prop, Pv 0 σ H1 ∧ (∀ i σ' H', Pv i σ' H' → Ex Hd H') ∧
      (∀ i v d σ' H', ds[i]? = some d → Dt K Hd v d → Pv i σ' H' → g v σ' H' fun σ2 H2 => tu { D with nx := Pv (i + 1), ct := Pv (i + 1), bk := D.nx } σ2 H2) ∧ ∀ σ' H', Pv ds.length σ' H' → D.nx σ' H') : tFor (iSeq K tl) g tu D σ H := by
  refine .inl (h H x _ fun v H1 Hd gr hd => ?_)
  obtain ⟨a, xs, rfl, hs, hall⟩ := dp_lst hd
  obtain ⟨Pv, p0, pb, ps, pe⟩ := k H1 Hd gr
  refine ⟨a, rfl, ⟨xs, sq_of (gr.d2 _ _ hs)⟩, for_list (K := K) (a := a) (xs := xs) Pv p0 (fun i σ' H' _ q => sq_of (pb i σ' H' q _ _ hs)) (fun i y σ' H' hi q => ?_) fun σ' H' q => pe σ' H' (by rw [← dpAll_len hall]; exact q)⟩
  obtain ⟨d, hdi, hx⟩ := dpAll_of hall hi
  exact ps i y d σ' H' hdi hx q
end
def F_names_in (n : Nat) (ds : List PyData) (d : PyData) : Prop := ∃ s : Sm, ds = [s.enc] ∧ s.depth ≤ n ∧ s.depth ≤ 6 ∧ d = .list (s.names.map PyData.str)
def F_sets_of (ds : List PyData) (d : PyData) : Prop := ∃ src : Src, ds = [encS src] ∧ goodS src = true ∧ d = .list ((setsOf src).map PyData.str)
def F_reads_of (ds : List PyData) (d : PyData) : Prop := ∃ src : Src, ds = [encS src] ∧ goodS src = true ∧ d = .list ((readsOf src).map PyData.str)
def Sm.parts : Sm → List Sm
  | .op _ a b => [a, b]
  | .ite a b c => [a, b, c]
  | _ => []
theorem Sm.names_parts (s : Sm) (h : isT s.enc "str" = false) : s.names = s.parts.flatMap Sm.names := by
  cases s with
  | num i => rfl
  | nm x => simp [Sm.enc, isT, tyN] at h
  | op w a b => simp [Sm.names, Sm.parts]
  | ite a b c => simp [Sm.names, Sm.parts]
theorem Sm.enc_parts (s : Sm) (h : isT s.enc "tuple" = true) : ∃ w, s.enc = .tuple (.str w :: s.parts.map Sm.enc) := by
  cases s with
  | num i => simp [Sm.enc, isT, tyN] at h
  | nm x => simp [Sm.enc, isT, tyN] at h
  | op w a b => exact ⟨w, rfl⟩
  | ite a b c => exact ⟨"if", rfl⟩
theorem Sm.parts_depth {s q : Sm} (h : q ∈ s.parts) : q.depth < s.depth := by
  cases s with
  | num i => cases h
  | nm x => cases h
  | op w a b =>
    simp only [Sm.parts, List.mem_cons, List.not_mem_nil, or_false] at h
    show q.depth < max a.depth b.depth + 1
    rcases h with rfl | rfl <;> omega
  | ite a b c =>
    simp only [Sm.parts, List.mem_cons, List.not_mem_nil, or_false] at h
    show q.depth < max a.depth (max b.depth c.depth) + 1
    rcases h with rfl | rfl | rfl <;> omega
end LC
namespace LC
open PySem PySem.Spec PyProof.Rows L2 Evl
theorem Acc.ret {K : Frag} {A H0 H Hs H' : Hp} {p : Addr} {out : List PyData} {d : PyData} {Q : VK} (k : Rt K H0 H d Q) (a : Acc K A Hs p out H') (xd : Ex H0 A) (fr : ∀ a, H0 a = none → H a ≠ none → A a = none) (ex : Ex H Hs) (hD : Hs p = none) (e : PyData.list out = d) : Q (.ref p) H' := by
  obtain ⟨Hd, g1, g2⟩ := a.done xd fr ex hD
  rw [e] at g2
  exact k _ H' Hd g1 g2
theorem take_flat {α β : Type} (f : α → List β) {l : List α} {i : Nat} {a : α} (h : l[i]? = some a) : (l.take (i + 1)).flatMap f = (l.take i).flatMap f ++ f a := by
  rw [List.take_add_one, h, Option.toList, List.flatMap_append]
  simp
theorem flat_take_len {α β : Type} (f : α → List β) (l : List α) (i : Nat) : ((l.take i).flatMap f).length ≤ (l.flatMap f).length := by
  have e := List.take_append_drop i l
  have : (l.flatMap f).length = ((l.take i).flatMap f).length + ((l.drop i).flatMap f).length := by
    rw [← List.length_append, ← List.flatMap_append, e]
  omega
end LC

namespace LC
open PySem PySem.Spec PyProof.Rows L2 Evl
theorem dt_strs {K : Frag} {H : Hp} : ∀ (l : List Str), DtAll K H (l.map V.str) (l.map PyData.str)
  | [] => .nil
  | x :: l => .cons (.str x) (dt_strs l)
theorem dt_ints {K : Frag} {H : Hp} : ∀ (l : List Int), DtAll K H (l.map V.int) (l.map PyData.int)
  | [] => .nil
  | x :: l => .cons (.int x) (dt_ints l)
/-- a new list of flat things is handed back -/
theorem flat_ret {K : Frag} {H0 H H' : Hp} {p : Addr} {xs : List V} {d : PyData} {ds : List PyData} {Q : VK} (k : Rt K H0 H d Q) (x : Ex H0 H) (ex : Ex H H') (hp : H p = none) (h : H' p = some (.lst xs)) (fl : DtAll K H0 xs ds) (e : PyData.list ds = d) : Q (.ref p) H' := by
  have hp0 : H0 p = none := fresh_back x hp
  refine k _ H' (upd H0 p (.lst xs)) ⟨ex, Ex.new hp0, fun a u q => ?_, fun a h0 h1 => ?_⟩ (e ▸ .lst upd_same (dpAll_ex (Ex.new hp0) _ _ fl))
  · by_cases z : a = p
    · subst z
      rw [upd_same] at q
      cases q
      exact h
    · rw [upd_ne z] at q
      exact ex a u (x a u q)
  · rw [upd_ne fun z => h1 (by rw [z]; exact hp)]
    exact h0
/-! rows by their places -/
def isSetD : PyData → Bool
  | .tuple (.str w :: _) => w == "set"
  | _ => false
def secondD : PyData → PyData
  | .tuple (_ :: x :: _) => x
  | d => d
theorem sets_data (src : Src) : ((src.map Rw.enc).filter isSetD).map secondD = (setsOf src).map PyData.str := by
  induction src with
  | nil => rfl
  | cons r src ih =>
    cases r with
    | set x s =>
      show (((Rw.set x s).enc :: src.map Rw.enc).filter isSetD).map secondD = ((Rw.set x s).sets ++ setsOf src).map PyData.str
      rw [List.filter_cons, if_pos (by rfl)]
      show PyData.str x :: _ = PyData.str x :: _
      rw [ih]
      rfl
    | shw s =>
      show (((Rw.shw s).enc :: src.map Rw.enc).filter isSetD).map secondD = ((Rw.shw s).sets ++ setsOf src).map PyData.str
      rw [List.filter_cons, if_neg (by show ¬ (("show" : Str) == "set") = true; decide +kernel)]
      exact ih
section
variable {K : Frag} {σ : L2.St} {H : Hp} {te : TE} {r : Rw}
/-- row[0] == "set" -/
theorem ev_isSet (h : EvD K te σ H r.enc) : Ev (tOp (rEqD K) (tOp (rIx K) te (tC (.int 0))) (tC (.str "set"))) σ H (.bl (isSetD r.enc)) := by
  cases r with
  | set x s => exact ev_is (ev_eq (evd_ixT (d := .str "set") h evd_int (atI_0 _ _)) evd_str (by decide +kernel) (by decide +kernel)) rfl
  | shw s => exact ev_is (ev_eq (evd_ixT (d := .str "show") h evd_int (atI_0 _ _)) evd_str (by decide +kernel) (by decide +kernel)) rfl
/-- row[-1] -/
theorem evd_last (h : EvD K te σ H r.enc) : EvD K (tOp (rIx K) te (tUn (rU fun i => .int (-i)) (tC (.int 1)))) σ H r.sum.enc := by
  have m1 : EvD K (tUn (rU fun i => .int (-i)) (tC (.int 1))) σ H (.int (-1)) := evd_i (ev_un (x := .int 1) ev_c ru_neg)
  cases r with
  | set x s => exact evd_ixT h m1 (atI_last [.str "set", .str x] s.enc)
  | shw s => exact evd_ixT h m1 (atI_last [.str "show"] s.enc)
/-- row[1] of a row that sets -/
theorem evd_setName {x : Str} {s : Sm} (h : EvD K te σ H (Rw.set x s).enc) : EvD K (tOp (rIx K) te (tC (.int 1))) σ H (.str x) := evd_ixT h evd_int (atI_1 _ _ _)
end
theorem isSetD_set (x : Str) (s : Sm) : isSetD (Rw.set x s).enc = true := rfl
theorem isSetD_shw (s : Sm) : isSetD (Rw.shw s).enc = false := by
  show (("show" : Str) == "set") = false
  decide +kernel
def addName (ms : List Str) (f : List Str) (x : Str) : List Str := if x ∈ ms ∨ x ∈ f then f else f ++ [x]
theorem addName_len (ms f : List Str) (x : Str) : (addName ms f x).length ≤ f.length + 1 := by
  unfold addName
  split <;> simp
theorem foldl_addName_len (ms : List Str) : ∀ (l f : List Str), (l.foldl (addName ms) f).length ≤ f.length + l.length
  | [], f => by simp
  | x :: l, f => by
    have := foldl_addName_len ms l (addName ms f x)
    have := addName_len ms f x
    simp only [List.foldl_cons, List.length_cons]
    omega
theorem readsGo_eq (acc : List Str × List Str) (r : Rw) : readsGo acc r = (r.sum.names.foldl (addName acc.2) acc.1, acc.2 ++ r.sets) := rfl
theorem reads_len (src : Src) (h : ∀ r ∈ src, r.good = true) : ∀ acc : List Str × List Str, (src.foldl readsGo acc).1.length ≤ acc.1.length + 729 * src.length := by
  induction src with
  | nil => intro acc; simp
  | cons r src ih =>
    intro acc
    have h1 := ih (fun q hq => h q (List.mem_cons_of_mem _ hq)) (readsGo acc r)
    have h2 := foldl_addName_len acc.2 r.sum.names acc.1
    have g := Rw.good_sum (h r (List.mem_cons_self ..))
    have h3 : r.sum.names.length ≤ 729 := Nat.le_trans (names_len _) (Nat.le_trans (Nat.pow_le_pow_right (by omega) g.2) (by decide))
    rw [List.foldl_cons, List.length_cons]
    rw [readsGo_eq] at h1 ⊢
    simp only at h1
    omega
theorem take_foldl {α β : Type} (f : β → α → β) {l : List α} {i : Nat} {a : α} (h : l[i]? = some a) (b : β) : (l.take (i + 1)).foldl f b = f ((l.take i).foldl f b) a := by
  rw [List.take_add_one, h, Option.toList, List.foldl_append] <;> rfl
theorem inD_strs (x : Str) (l : List Str) : inD (.str x) (l.map PyData.str) = decide (x ∈ l) := inD_str
theorem mine_len (src : Src) : ∀ acc : List Str × List Str, (src.foldl readsGo acc).2.length ≤ acc.2.length + src.length := by
  induction src with
  | nil => intro acc; simp
  | cons r src ih =>
    intro acc
    have h1 := ih (readsGo acc r)
    rw [List.foldl_cons, List.length_cons]
    rw [readsGo_eq] at h1 ⊢
    simp only [List.length_append] at h1
    have : r.sets.length ≤ 1 := by cases r <;> simp [Rw.sets]
    omega
end LC

namespace LC
open PySem PySem.Spec PyProof.Rows L2
/-! ### sets of ints and texts, walked: over HandS.Set's own, with both kinds of keys -/
def kOf (e : Int × Value) : Key := match e.2 with
  | .int k _ => .inl k
  | .str x _ => .inr x
  | _ => .inl 0
def GoodQ (w : World) (e : Int × Value) : Prop := (∃ k tk, e.2 = Value.int k tk ∧ e.1 = hashInt k) ∨ ∃ x tk, e.2 = Value.str x tk ∧ e.1 = hashStr w x
/-- the keys L stand in the set at a; it can be walked -/
def SetQ (w : World) (h : Heap) (a : Addr) (L : List Key) : Prop := ∃ o es ep t, h.get? a = some o ∧ o.ExactSet ∧ o.data = .set es ep t ∧ (∀ e ∈ es.toList, GoodQ w e) ∧ (es.toList.map kOf).Perm L ∧ L.Nodup ∧
  es.size < scanBound ∧ t.fits es.size = true ∧ Ris t.place.toList ∧ (w.params.followText "set-order" = true ∨ t.led = true)
open Classical in
noncomputable def addK (L : List Key) (k : Key) : List Key := if k ∈ L then L else k :: L
section
variable {P : Program} {w : World} {A : Around} {E : Value → Shared → Prop} {s : Shared} {a : Addr} {L : List Key} {k : Key} {u : Value}
theorem goodQ_elems {l : List (Int × Value)} (gq : ∀ e ∈ l, GoodQ w e) : ElemsOf (mixKind P w) l := fun e he => by
  rcases gq e he with ⟨k, tk, h1, h2⟩ | ⟨x, tk, h1, h2⟩
  · exact ⟨⟨.inl k, by rw [h1]; exact keyIs_int k tk, h2⟩, by rw [h1] <;> rfl⟩
  · exact ⟨⟨.inr x, by rw [h1]; exact keyIs_str x tk, h2⟩, by rw [h1] <;> rfl⟩
theorem goodQ_is {e : Int × Value} (gq : GoodQ w e) (k : Key) : (mixKind P w).is k e.2 = true ↔ kOf e = k := by
  unfold kOf
  rcases gq with ⟨j, tk, h1, _⟩ | ⟨x, tk, h1, _⟩
  · rw [h1]
    cases k with
    | inl i =>
      show ((j == i) = true) ↔ (Sum.inl j : Key) = Sum.inl i
      simp
    | inr y =>
      show (Value.isStrOf y (Value.int j tk) = true) ↔ (Sum.inl j : Key) = Sum.inr y
      simp [Value.isStrOf]
  · rw [h1]
    cases k with
    | inl i =>
      show (Value.isInt i (Value.str x tk) = true) ↔ (Sum.inr x : Key) = Sum.inl i
      simp [Value.isInt]
    | inr y =>
      show (Value.isStrOf y (Value.str x tk) = true) ↔ (Sum.inr x : Key) = Sum.inr y
      simp [Value.isStrOf]
theorem goodQ_mem {l : List (Int × Value)} (gq : ∀ e ∈ l, GoodQ w e) (k : Key) : k ∈ l.map kOf ↔ ∃ e ∈ l, (mixKind P w).is k e.2 = true := by
  rw [List.mem_map]
  exact ⟨fun ⟨e, he, q⟩ => ⟨e, he, (goodQ_is (gq e he) k).2 q⟩, fun ⟨e, he, q⟩ => ⟨e, he, (goodQ_is (gq e he) k).1 q⟩⟩
theorem setQ_tail {g : Bool → Sem Unit} (hg : ∀ (b : Bool) (s₁ : Shared) (Q' : Unit → Shared → Prop), Q' () s₁ → wpAny (model P w) A (g b) Q' E s₁)
    {o : Obj} {es : Array (Int × Value)} {ep : Nat} {t : SetTable} (ob : s.heap.get? a = some o) (oe : o.ExactSet) (od : o.data = .set es ep t)
    {xs : Array (Int × Value)} {t2 : SetTable} (gq : ∀ e ∈ xs.toList, GoodQ w e) (pm0 : (xs.toList.map kOf).Perm L) (nd : L.Nodup)
    (few : xs.size < scanBound) (fit : t2.fits xs.size = true) (ri : Ris t2.place.toList) (le : w.params.followText "set-order" = true ∨ t2.led = true) {wasDummy : Bool} {R : Option Bool → Shared → Prop}
    (hR : ∀ h', Heap.SameBut a s.heap h' → SetQ w h' a L → R (some true) { s with heap := h' }) :
    wpAny (model P w) A (do
        storeSet a xs t2
        if (!wasDummy && t2.tooFull) = true then do
            g (relayAll t2 xs (SetTable.grown xs.size)).2.2
            storeSet a (relayAll t2 xs (SetTable.grown xs.size)).1 (relayAll t2 xs (SetTable.grown xs.size)).2.1
            pure (some true)
          else pure (some true)) R E s := by
  refine wpAny_bind (wpAny_storeSet_of ob od ?_ (fits_of_scanBound few))
  have ob1 := store_at (es' := xs) (t' := t2) ob od
  have sm1 := Heap.SameBut.update s.heap a (Obj.putSet xs t2)
  split
  · have pm := relayAll_perm t2 xs (SetTable.grown xs.size)
    have f3 := relayAll_fits t2 xs (SetTable.grown xs.size)
    have r3 := relayAll_ris t2 xs (SetTable.grown xs.size)
    have l3 := relayAll_led t2 xs (SetTable.grown xs.size)
    generalize relayAll t2 xs (SetTable.grown xs.size) = Z at pm f3 r3 l3 ⊢
    obtain ⟨ys, t3, gave⟩ := Z
    dsimp only at pm f3 r3 l3 ⊢
    have sz : ys.size = xs.size := by rw [← Array.length_toList, pm.length_eq, Array.length_toList]
    have few2 : ys.size < scanBound := by rw [sz]; exact few
    refine wpAny_bind (hg _ _ _ (wpAny_bind (wpAny_storeSet_of ob1 rfl ?_ (fits_of_scanBound few2))))
    have ob2 := store_at (es' := ys) (t' := t3) ob1 rfl
    exact wpAny_pure (hR _ (sm1.trans (Heap.SameBut.update _ a _)) ⟨_, ys, _, t3, ob2, oe, rfl, fun e he => gq e (pm.mem_iff.mp he), (pm.map kOf).trans pm0, nd, few2, f3, r3, le.imp id fun z => by rw [l3]; exact z⟩)
  · exact wpAny_pure (hR _ sm1 ⟨_, xs, _, t2, ob1, oe, rfl, gq, pm0, nd, few, fit, ri, le⟩)
theorem kV_good {w : World} (r : RelV (kV k) u) : GoodQ w ((mixKind P w).hash k, u) ∧ kOf ((mixKind P w).hash k, u) = k ∧ u.scannable = true := by
  cases k with
  | inl i =>
    obtain ⟨t, rfl⟩ := r
    exact ⟨.inl ⟨i, t, rfl, rfl⟩, rfl, rfl⟩
  | inr x =>
    obtain ⟨t, rfl⟩ := r
    exact ⟨.inr ⟨x, t, rfl, rfl⟩, rfl, rfl⟩
theorem setQ_hashed {Q : Bool → Shared → Prop} (R : SetQ w s.heap a L) (rk : RelV (kV k) u) (room : L.length + 1 < scanBound) (hQ : ∀ h' b, Heap.SameBut a s.heap h' → SetQ w h' a (addK L k) → Q b { s with heap := h' }) :
    wpAny (model P w) A (setAddHashed a u ((mixKind P w).hash k)) Q E s := by
  obtain ⟨o, es, ep, t, ob, oe, od, gq, pm0, nd, few, fit, ri, le⟩ := R
  obtain ⟨gu, eu, su⟩ := kV_good (P := P) (w := w) rk
  have hkey : (mixKind P w).is k u = true := kV_is rk
  have els : ElemsOf (mixKind P w) es.toList := goodQ_elems gq
  unfold setAddHashed setAddHashedIn
  refine wpAny_holding (wpAny_bind (wpAny_setState_of ob od fit ?_))
  dsimp only
  rw [byScan_of su few els]
  simp only [↓reduceIte]
  unfold setAddByScan
  refine wpAny_bind (wpAny_bind (wpAny_rule (wpAny_bind (wpAny_setScan_of hkey ob od fit els ?_))))
  cases fi : List.findIdx? (fun e => (mixKind P w).is k e.2) es.toList with
  | some j =>
    dsimp only
    obtain ⟨hj, pj, _⟩ := List.findIdx?_eq_some_iff_getElem.mp fi
    have inL : k ∈ L := pm0.mem_iff.mp ((goodQ_mem (P := P) gq k).2 ⟨es.toList[j], List.getElem_mem hj, pj⟩)
    refine wpAny_pure (wpAny_pure ?_)
    have q := hQ s.heap false (Heap.SameBut.refl a s.heap) (by
      unfold addK
      rw [if_pos inL]
      exact ⟨o, es, ep, t, ob, oe, od, gq, pm0, nd, few, fit, ri, le⟩)
    exact q
  | none =>
    dsimp only
    have nin : k ∉ es.toList.map kOf := fun z => by
      obtain ⟨e, he, q⟩ := (goodQ_mem (P := P) gq k).1 z
      have c := List.findIdx?_eq_none_iff.mp fi e he
      rw [q] at c
      cases c
    have ninL : k ∉ L := fun z => nin (pm0.mem_iff.mpr z)
    have gw : ∀ (b : Bool) {s₁ : Shared} {Q' : Unit → Shared → Prop}, Q' () s₁ → wpAny (model P w) A (match b with | true => rule "set.scan.the-table-gave-way" | false => pure ()) Q' E s₁ := fun b s₁ Q' q => by
      cases b
      · exact wpAny_pure q
      · exact wpAny_rule q
    have pm := layNew_perm t es ((mixKind P w).hash k) u
    have f1 := layNew_fits t es ((mixKind P w).hash k) u
    have r1 := layNew_ris t es ((mixKind P w).hash k) u ri
    have l1 := layNew_led t es ((mixKind P w).hash k) u
    generalize layNew t es ((mixKind P w).hash k) u = Z at pm f1 r1 l1 ⊢
    obtain ⟨xs, t1, wasDummy, gave⟩ := Z
    dsimp only at pm f1 r1 l1 ⊢
    rw [Array.toList_push] at pm
    have pc : xs.toList.Perm (((mixKind P w).hash k, u) :: es.toList) := pm.trans (List.perm_append_singleton _ _)
    have pk : (xs.toList.map kOf).Perm (addK L k) := by
      unfold addK
      rw [if_neg ninL]
      have z := pc.map kOf
      rw [List.map_cons, eu] at z
      exact z.trans (pm0.cons k)
    have ndk : (addK L k).Nodup := by
      unfold addK
      rw [if_neg ninL]
      exact List.nodup_cons.mpr ⟨ninL, nd⟩
    have g1 : ∀ e ∈ xs.toList, GoodQ w e := fun e he => by
      rcases List.mem_cons.mp (pc.mem_iff.mp he) with z | z
      · rw [z]; exact gu
      · exact gq e z
    have few1 : xs.size < scanBound := by
      have z := pk.length_eq
      unfold addK at z
      rw [if_neg ninL, List.length_map, Array.length_toList, List.length_cons] at z
      omega
    have led1 : w.params.followText "set-order" = true ∨ t1.led = true := le.imp id fun z => by rw [l1]; exact z
    refine wpAny_bind (gw _ ?_)
    split
    · refine wpAny_bind ?_
      rw [hashByValue_scannable 8 su]
      refine wpAny_pure ?_
      refine setQ_tail (L := addK L k) ?_ ob oe od g1 pk ndk few1 ?_ ?_ ?_ ?_
      · intro b s₁ Q' q
        cases b
        · exact wpAny_pure q
        · exact wpAny_rule q
      · first | (split <;> first | exact f1 | exact SetTable.fits_plain_off f1) | exact f1
      · first | (split <;> exact r1) | exact r1
      · first | (split <;> exact led1) | exact led1
      · intro h' sb r
        dsimp only
        exact wpAny_pure (hQ h' _ sb r)
    · refine wpAny_bind (wpAny_pure ?_)
      simp only [↓reduceIte]
      refine setQ_tail (L := addK L k) ?_ ob oe od g1 pk ndk few1 f1 r1 led1 ?_
      · intro b s₁ Q' q
        cases b
        · exact wpAny_pure q
        · exact wpAny_rule q
      · intro h' sb r
        dsimp only
        exact wpAny_pure (hQ h' _ sb r)
end
end LC

namespace LC
open PySem PySem.Spec PyProof.Rows L2
abbrev newSet (w : World) : Obj := { cls := .type "set", dict := none, data := .set #[] 0 (.fresh 0 0 (!w.params.followText "set-order")) }
section
variable {P : Program} {w : World} {A : Around} {E : Value → Shared → Prop} {s : Shared}
theorem SetQ.keep {h h' : Heap} {a : Addr} {L : List Key} (R : SetQ w h a L) (k : ∀ o, h.get? a = some o → h'.get? a = some o) : SetQ w h' a L := by
  obtain ⟨o, es, ep, t, ob, r⟩ := R
  exact ⟨o, es, ep, t, k o ob, r⟩
theorem setQ_fresh {h : Heap} {a : Addr} (ob : h.get? a = some (newSet w)) : SetQ w h a [] := by
  refine ⟨_, #[], 0, _, ob, ⟨rfl, rfl, rfl⟩, rfl, fun e he => (by simp at he), List.Perm.nil, List.nodup_nil, by decide, by rfl, List.Pairwise.nil, ?_⟩
  show _ ∨ (!w.params.followText "set-order") = true
  cases w.params.followText "set-order"
  · exact .inr rfl
  · exact .inl rfl
theorem addK_len (L : List Key) (k : Key) : (addK L k).length ≤ L.length + 1 := by
  unfold addK
  split
  · omega
  · simp
theorem foldl_addK_len : ∀ (ks L : List Key), (ks.foldl addK L).length ≤ L.length + ks.length
  | [], L => by simp
  | k :: ks, L => by
    have h1 := foldl_addK_len ks (addK L k)
    have h2 := addK_len L k
    simp only [List.foldl_cons, List.length_cons]
    omega
/-- the loop of set.update over keys -/
theorem setQ_loop {I : Addr} {fp wr : List Addr} {G : Array GenState → Array GenState → Prop} {n : Nat} {Pv : Nat → Value → Prop} {St : Nat → Shared → Prop} {R : Result → Shared → Prop}
    (W : WalksS P w A.in1 I fp wr G n Pv St) (S : Addr) (nf : S ∉ fp) (ks : List Key) (en : n = ks.length) (few : ks.length + 1 < scanBound) (val : ∀ i v, Pv i v → ∃ k, ks[i]? = some k ∧ RelV (kV k) v) :
    ∀ (c i : Nat) (s : Shared), n - i = c → i ≤ n → St i s → SetQ w s.heap S ((ks.take i).foldl addK []) → (∀ s', Moved (S :: wr) G s s' → SetQ w s'.heap S (ks.foldl addK []) → R (.ok (.ret .none)) s') →
      codeAny (model P w) A (.builtin "set.update.loop" ⟨[.ref S, .ref I], []⟩) R s := by
  have nw : S ∉ wr := fun z => nf (W.sub _ z)
  have up : ∀ b ∈ wr, b ∈ S :: wr := fun b hb => List.mem_cons_of_mem _ hb
  intro c
  induction c with
  | zero =>
    intro i s hc hi st hS hR
    obtain rfl : i = n := by omega
    refine codeAny_builtin F.entry_set_update_loop ?_
    rw [Around.under_plainId F.plain_set_update_loop _]
    show wpAny _ A.in1 (pyNext (.ref I) >>= _) _ _ s
    refine wpAny_bind (W.done s _ _ st fun s' mv => ?_)
    show wpAny _ A.in1 (ret Value.none) _ _ s'
    refine wpAny_pure (hR s' (mv.mono up) (SetQ.keep ?_ fun o e => mv.heap S o nw e))
    rw [en, List.take_length] at hS
    exact hS
  | succ c ih =>
    intro i s hc hi st hS hR
    have lt : i < n := by omega
    refine codeAny_builtin F.entry_set_update_loop ?_
    rw [Around.under_plainId F.plain_set_update_loop _]
    show wpAny _ A.in1 (pyNext (.ref I) >>= _) _ _ s
    refine wpAny_bind (W.item i s _ _ lt st fun v s' pv st' mv => ?_)
    obtain ⟨k, hk, rk⟩ := val i v pv
    have hS' : SetQ w s'.heap S ((ks.take i).foldl addK []) := hS.keep fun o e => mv.heap S o nw e
    show wpAny _ A.in1 (holding [v] (setAdd S v) >>= _) _ _ s'
    refine wpAny_bind (wpAny_holding ?_)
    unfold setAdd
    refine wpAny_holding (wpAny_bind ((mixKind P w).pyHash (k := k) (kV_is rk) ?_))
    have ll := foldl_addK_len (ks.take i) []
    rw [List.length_take, List.length_nil] at ll
    refine setQ_hashed (s := { s' with toks := s'.toks + 1 }) hS' rk (by omega) fun h' b sb hS2 => ?_
    have e1 : (ks.take (i + 1)).foldl addK [] = addK ((ks.take i).foldl addK []) k := take_foldl addK hk []
    rw [← e1] at hS2
    refine wpAny_pure ⟨plainId_quiet F.plain_set_update_loop _, ih (i + 1) _ (by omega) lt (W.frame _ s' _ _ st' (Nat.le_succ _) fun b hb o e => ?_) hS2 fun s'' mv2 hS3 => ?_⟩
    · rw [sb.2 b fun z : b = S => nf (by rw [← z]; exact hb)]
      exact e
    · refine hR s'' (Moved.trans W.gtrans ((mv.mono up).then_heap (Nat.le_succ _) fun b o hb e => ?_) mv2) hS3
      rw [sb.2 b fun z : b = S => hb (by rw [z]; exact List.mem_cons_self)]
      exact e
/-- set(xs), xs a list of ints and texts -/
theorem setQ_of {l : Addr} {items : Array Value} (ks : List Key) {Q : Value → Shared → Prop} (hh : A.handled = none) (hl : s.heap.IsList l items) (rel : Vals (ks.map kV) items.toList) (few : ks.length + 1 < scanBound)
    (h : ∀ (h' : Heap) (tk : Nat), SetQ w h' s.heap.objs.size (ks.foldl addK []) → (∀ b o, s.heap.get? b = some o → h'.get? b = some o) → Q (.ref s.heap.objs.size) { s with heap := h', toks := tk }) :
    wpAny (model P w) A (call (.type "set") [.ref l]) Q E s := by
  have isz : items.size = ks.length := by
    have q : (ks.map kV).length = items.toList.length := rel.length
    rw [List.length_map] at q
    simpa using q.symm
  obtain ⟨c0, tl0, mro0⟩ := F.called_set.mro
  have made0 := F.called_set.made
  have sub0 := F.called_set.sub
  refine wpAny_call (codeAny_of_tree ?_)
  show wpAny _ _ (callAny (.type "set") _) _ _ _
  refine wpAny_pure ⟨Code.quiet_builtin _ (by decide +kernel), codeAny_builtin F.entry_type_call ?_⟩
  rw [Around.under_plain (weight_type_call_type "set" [.ref l] []) rfl]
  have not0 := F.called_set.notType
  have can0 := F.called_set.canCreate
  have call0 := F.typeCall_set_1 (.ref l)
  repeat (any_goals (first | assumption | wp_step))
  refine codeAny_mono (code_set_led1 (.ref l) (E := E) (Q₁ := fun obj s₁ => obj = .ref s.heap.objs.size ∧ s₁ = { s with heap := s.heap.push (newSet w) }) ⟨rfl, rfl⟩) fun r s₁ hr => ?_
  cases r with
  | error e => exact hr
  | ok fl =>
    cases fl with
    | ret obj =>
      obtain ⟨rfl, rfl⟩ := hr
      have ob : (s.heap.push (newSet w)).get? s.heap.objs.size = some (newSet w) := Heap.get?_push_size _ rfl
      have ty : Shared.TypeIs { s with heap := s.heap.push (newSet w) } (.ref s.heap.objs.size) "set" := ⟨_, ob, rfl⟩
      have li0 := F.called_set.init.lookup
      have bi0 := F.called_set.init.bind (.ref s.heap.objs.size)
      repeat (any_goals (first | assumption | wp_step))
      refine codeAny_mono (codeAny_call_builtin (R := wants (fun r s₂ => r = .none ∧ ∃ h' tk, s₂ = { s with heap := h', toks := tk } ∧ SetQ w h' s.heap.objs.size (ks.foldl addK []) ∧ ∀ b o, s.heap.get? b = some o → h'.get? b = some o) E)
        F.called_set.init.plain F.entry_set_init (check_set_init_1 ty ?_)) fun r₂ s₂ hr₂ => ?_
      · obtain ⟨ol, hol, hcl, nl, hdl⟩ := hl
        obtain ⟨ocls, odict, odata, oslots⟩ := ol
        simp only at hcl hdl
        subst hcl hdl
        have hol2 : (s.heap.push (newSet w)).get? l = some { cls := .type "list", dict := odict, data := .seq items nl, slots := oslots } := Heap.get?_push_of_some _ hol
        have f1 := F.sub_list_set
        have f2 := F.sub_list_frozenset
        have f3 : (Value.type "list" == Value.type "dict") = false := by decide
        have isl : (s.heap.push (newSet w)).IsList l items := ⟨_, hol2, rfl, nl, rfl⟩
        unfold Builtin.«set.__init__» noKeywords Builtin.Frozenset.updateFrom
        generalize hPI : pyIter = PI
        wp_walk
        subst hPI
        refine wpAny_pyIter_list isl (wpAny_bind (wpAny_runValue ?_))
        have ls : l < s.heap.objs.size := Heap.lt_size hol
        have h3 : A.in1.in1.in1.handled = none := by simp [hh]
        have ne1 : l ≠ (s.heap.push (newSet w)).objs.size := by
          rw [Heap.size_push]
          exact Nat.ne_of_lt (Nat.lt_succ_of_lt ls)
        have nf : s.heap.objs.size ∉ [(s.heap.push (newSet w)).objs.size, l] := by
          rw [Heap.size_push]
          simp only [List.mem_cons, List.not_mem_nil, or_false, not_or]
          exact ⟨Nat.ne_of_lt (Nat.lt_succ_self _), Nat.ne_of_gt ls⟩
        have val : ∀ (i : Nat) (v : Value), items[i]? = some v → ∃ k, ks[i]? = some k ∧ RelV (kV k) v := fun i v hv => by
          have q : items.toList[i]? = some v := by rw [Array.getElem?_toList]; exact hv
          cases hq : ks[i]? with
          | none =>
            have z := rel.none_of (i := i) (by rw [List.getElem?_map, hq] <;> rfl)
            rw [q] at z
            cases z
          | some k =>
            obtain ⟨u, hu, ru⟩ := rel.get (i := i) (x := kV k) (by rw [List.getElem?_map, hq] <;> rfl)
            rw [q] at hu
            cases hu
            exact ⟨k, rfl, ru⟩
        refine setQ_loop ((Walks.list h3 _ l ne1 items).toS) s.heap.objs.size nf ks isz few val (items.size - 0) 0 _ (by omega) (Nat.zero_le _) ⟨⟨_, Heap.get?_push_size _ rfl, rfl, rfl⟩, (isl.push _)⟩ (setQ_fresh (Heap.get?_push_of_some _ ob)) fun s' mv hS => ?_
        obtain ⟨h', g2, d2, tk2, os2⟩ := s'
        have eg : g2 = s.gens := mv.gens
        have ed : d2 = s.drawn := mv.drawn
        have eo : os2 = s.os := mv.os
        subst eg ed eo
        show wpAny _ _ _ _ _ _
        refine wpAny_pure ?_
        show wpAny _ _ (ret Value.none) _ _ _
        refine wpAny_pure ⟨rfl, h', tk2, rfl, hS, fun b o e => mv.heap b o ?_ (Heap.get?_push_of_some _ (Heap.get?_push_of_some _ e))⟩
        have lb := Heap.lt_size e
        simp only [List.mem_cons, List.not_mem_nil, or_false, not_or]
        refine ⟨Nat.ne_of_lt lb, ?_⟩
        rw [Heap.size_push]
        exact Nat.ne_of_lt (Nat.lt_succ_of_lt lb)
      · cases r₂ with
        | error e => exact hr₂
        | ok fl₂ =>
          cases fl₂ with
          | ret r =>
            obtain ⟨rfl, h', tk, rfl, hS, hk⟩ := hr₂
            repeat (any_goals (first | assumption | wp_step))
            exact h _ _ hS hk
          | _ => exact hr₂.elim
    | _ => exact hr.elim
/-- the members of a set of texts, of ints, in some order -/
theorem strs_of_keys : ∀ (l : List (Int × Value)) (xs : List Str), (∀ e ∈ l, GoodQ w e) → l.map kOf = xs.map Sum.inr → StrsAre (l.map (·.2)) xs
  | [], [], _, _ => .nil
  | [], _ :: _, _, h => by simp at h
  | _ :: _, [], _, h => by simp at h
  | e :: l, x :: xs, g, h => by
    simp only [List.map_cons, List.cons.injEq] at h
    have ih := strs_of_keys l xs (fun q hq => g q (List.mem_cons_of_mem _ hq)) h.2
    rcases g e (List.mem_cons_self ..) with ⟨k, tk, h1, _⟩ | ⟨y, tk, h1, _⟩
    · have z := h.1
      unfold kOf at z
      rw [h1] at z
      cases z
    · have z := h.1
      unfold kOf at z
      rw [h1] at z
      cases z
      rw [List.map_cons, h1]
      exact .cons x tk ih
theorem ints_of_keys : ∀ (l : List (Int × Value)) (xs : List Int), (∀ e ∈ l, GoodQ w e) → l.map kOf = xs.map Sum.inl → IntsAre (l.map (·.2)) xs
  | [], [], _, _ => .nil
  | [], _ :: _, _, h => by simp at h
  | _ :: _, [], _, h => by simp at h
  | e :: l, x :: xs, g, h => by
    simp only [List.map_cons, List.cons.injEq] at h
    have ih := ints_of_keys l xs (fun q hq => g q (List.mem_cons_of_mem _ hq)) h.2
    rcases g e (List.mem_cons_self ..) with ⟨k, tk, h1, _⟩ | ⟨y, tk, h1, _⟩
    · have z := h.1
      unfold kOf at z
      rw [h1] at z
      cases z
      rw [List.map_cons, h1]
      exact .cons x tk ih
    · have z := h.1
      unfold kOf at z
      rw [h1] at z
      cases z
end
end LC

namespace LC
open PySem PySem.Spec PyProof.Rows L2 Evl
/-! ### each once -/
def nub {α : Type} [DecidableEq α] : List α → List α
  | [] => []
  | x :: l => x :: (nub l).filter (fun y => decide (y ≠ x))
section
variable {α : Type} [DecidableEq α]
theorem mem_nub (x : α) : ∀ l : List α, x ∈ nub l ↔ x ∈ l
  | [] => Iff.rfl
  | y :: l => by
    have ih := mem_nub x l
    show x ∈ y :: (nub l).filter (fun z => decide (z ≠ y)) ↔ x ∈ y :: l
    rw [List.mem_cons, List.mem_cons, List.mem_filter, ih]
    simp only [ne_eq, decide_not, Bool.not_eq_true', decide_eq_false_iff_not]
    by_cases h : x = y
    · simp [h]
    · simp [h]
theorem nub_nodup : ∀ l : List α, (nub l).Nodup
  | [] => List.nodup_nil
  | y :: l => by
    refine List.nodup_cons.mpr ⟨fun z => ?_, (nub_nodup l).sublist List.filter_sublist⟩
    simp at z
theorem nub_len : ∀ l : List α, (nub l).length ≤ l.length
  | [] => Nat.le_refl _
  | y :: l => by
    have h1 := nub_len l
    have h2 := List.length_filter_le (fun z => decide (z ≠ y)) (nub l)
    show ((nub l).filter (fun z => decide (z ≠ y))).length + 1 ≤ l.length + 1
    omega
end
/-! ### the order of texts -/
def leS (x y : Str) : Bool := !ltCps y.cps.toList x.cps.toList
theorem lt_trans0 : ∀ a b c : List Nat, ltCps b a = false → ltCps c b = false → ltCps c a = false := by
  intro a
  induction a with
  | nil => intro b c h1 h2; cases c <;> simp_all [ltCps]
  | cons x a ih =>
    intro b c h1 h2
    cases b with
    | nil => simp [ltCps] at h1
    | cons y b =>
      cases c with
      | nil => simp [ltCps] at h2
      | cons z c =>
        simp only [ltCps, Bool.or_eq_false_iff, Bool.and_eq_false_iff, decide_eq_false_iff_not, beq_eq_false_iff_ne] at h1 h2 ⊢
        refine ⟨by omega, ?_⟩
        by_cases e : z = x
        · right
          have e1 : y = x := by omega
          have e2 : z = y := by omega
          rcases h1.2 with q | q
          · exact absurd e1 q
          · rcases h2.2 with q2 | q2
            · exact absurd e2 q2
            · exact ih b c q q2
        · exact .inl e
theorem lt_anti0 : ∀ a b : List Nat, ltCps b a = false → ltCps a b = false → a = b := by
  intro a
  induction a with
  | nil => intro b h1 h2; cases b <;> simp_all [ltCps]
  | cons x a ih =>
    intro b h1 h2
    cases b with
    | nil => simp [ltCps] at h1
    | cons y b =>
      simp only [ltCps, Bool.or_eq_false_iff, Bool.and_eq_false_iff, decide_eq_false_iff_not, beq_eq_false_iff_ne] at h1 h2
      have e : x = y := by omega
      subst e
      rw [ih b (h1.2.resolve_left (fun z => z rfl)) (h2.2.resolve_left fun z => z rfl)]
theorem lt_total0 : ∀ a b : List Nat, ltCps b a = false ∨ ltCps a b = false := by
  intro a
  induction a with
  | nil => intro b; left; cases b <;> simp [ltCps]
  | cons x a ih =>
    intro b
    cases b with
    | nil => right; simp [ltCps]
    | cons y b =>
      simp only [ltCps, Bool.or_eq_false_iff, Bool.and_eq_false_iff, decide_eq_false_iff_not, beq_eq_false_iff_ne]
      rcases ih b with q | q
      · by_cases e : y < x
        · exact .inr ⟨by omega, .inl (by omega)⟩
        · exact .inl ⟨e, .inr q⟩
      · by_cases e : x < y
        · exact .inl ⟨by omega, .inl (by omega)⟩
        · exact .inr ⟨e, .inr q⟩
end LC
namespace LC
open PySem PySem.Spec PyProof.Rows L2 Evl
theorem rising_pair : ∀ (l : List Str) (p : Str), risingS p l = true → (p :: l).Pairwise (fun a b => leS a b = true)
  | [], p, _ => List.pairwise_singleton _ _
  | x :: l, p, h => by
    have h : (!ltCps x.cps.toList p.cps.toList && risingS x l) = true := h
    rw [Bool.and_eq_true] at h
    have ih := rising_pair l x h.2
    refine List.pairwise_cons.mpr ⟨fun y hy => ?_, ih⟩
    rcases List.mem_cons.mp hy with rfl | hy
    · exact h.1
    · have h2 := (List.pairwise_cons.mp ih).1 y hy
      have e1 : ltCps x.cps.toList p.cps.toList = false := by simpa using h.1
      have e2 : ltCps y.cps.toList x.cps.toList = false := by simpa [leS] using h2
      show (!ltCps y.cps.toList p.cps.toList) = true
      rw [lt_trans0 _ _ _ e1 e2] <;> rfl
theorem sorted_pair {l : List Str} (h : sortedS l = true) : l.Pairwise (fun a b => leS a b = true) := by
  cases l with
  | nil => exact List.Pairwise.nil
  | cons x l => exact rising_pair l x h
/-- each once, rising -/
def sortU (xs : List Str) : List Str := (nub xs).mergeSort leS
def sortI (xs : List Int) : List Int := (nub xs).mergeSort fun a b => decide (a ≤ b)
theorem leS_anti {x y : Str} (h1 : leS x y = true) (h2 : leS y x = true) : x = y := by
  have e := lt_anti0 x.cps.toList y.cps.toList (by simpa [leS] using h1) (by simpa [leS] using h2)
  obtain ⟨⟨l1⟩⟩ := x
  obtain ⟨⟨l2⟩⟩ := y
  have e : l1 = l2 := e
  rw [e]
theorem sortU_eq {xs ys : List Str} (hn : ys.Nodup) (hm : ∀ x, x ∈ ys ↔ x ∈ xs) (hs : sortedS ys = true) : ys = sortU xs := by
  have pm : ys.Perm (nub xs) := (List.perm_ext_iff_of_nodup hn (nub_nodup xs)).mpr fun x => (hm x).trans (mem_nub x xs).symm
  refine (pm.trans (List.mergeSort_perm _ _).symm).eq_of_pairwise (fun x y _ _ h1 h2 => leS_anti h1 h2) (sorted_pair hs) (List.pairwise_mergeSort ?_ ?_ _)
  · intro a b c h1 h2
    show (!ltCps c.cps.toList a.cps.toList) = true
    rw [lt_trans0 a.cps.toList b.cps.toList c.cps.toList (by simpa [leS] using h1) (by simpa [leS] using h2)] <;> rfl
  · intro a b
    rcases lt_total0 a.cps.toList b.cps.toList with q | q <;> simp [leS, q]
theorem sortI_eq {xs ys : List Int} (hn : ys.Nodup) (hm : ∀ x, x ∈ ys ↔ x ∈ xs) (hs : ys.Pairwise (· ≤ ·)) : ys = sortI xs := by
  have pm : ys.Perm (nub xs) := (List.perm_ext_iff_of_nodup hn (nub_nodup xs)).mpr fun x => (hm x).trans (mem_nub x xs).symm
  refine (pm.trans (List.mergeSort_perm _ _).symm).eq_of_pairwise (le := fun a b => a ≤ b) (fun x y _ _ h1 h2 => Int.le_antisymm h1 h2) hs ?_
  have h := List.pairwise_mergeSort (le := fun a b : Int => decide (a ≤ b)) (by intro a b c h1 h2; simp at h1 h2 ⊢; omega) (by intro a b; simp; omega) (nub xs)
  exact h.imp fun z => by simpa using z
theorem mem_addK {x k : Key} {L : List Key} : x ∈ addK L k ↔ x ∈ L ∨ x = k := by
  unfold addK
  split
  · rename_i h
    exact ⟨.inl, fun z => z.elim id fun e => e ▸ h⟩
  · rw [List.mem_cons]
    exact Or.comm
theorem mem_foldK {x : Key} : ∀ (ks L : List Key), x ∈ ks.foldl addK L ↔ x ∈ L ∨ x ∈ ks
  | [], L => by simp
  | k :: ks, L => by
    rw [List.foldl_cons, mem_foldK ks, mem_addK, List.mem_cons, or_assoc]
/-- a set of keys, as an object -/
def SetQO (w : World) (a : Addr) (L : List Key) : HO := .ext fun h => SetQ w h a L
theorem setQO_new {P : Program} {w : World} {H : Hp} {h : Heap} {a : Addr} {L : List Key} (R : SetQ w h a L) : ObjOk P w H h a (SetQO w a L) := by
  have ⟨o, _, _, _, ho, _⟩ := R
  exact ⟨R, ⟨o, ho⟩, fun h1 h2 p k => SetQ.keep p k⟩
def rSetQ (K : Frag) (w : World) : List V → Hp → VK → Prop := fun xs H Q => ∃ (l : Addr) (ks : List Key), xs = [V.ref l] ∧ SqL K H l (ks.map kV) ∧ ks.length + 1 < scanBound ∧ ∀ a, H a = none → Q (.ref a) (upd H a (SetQO w a (ks.foldl addK [])))
def rSortQS (w : World) : List V → Hp → VK → Prop := fun vs H Q => ∃ (a : Addr) (L : List Key) (xs : List Str), vs = [V.ref a] ∧ H a = some (SetQO w a L) ∧ L.Nodup ∧ (∀ k, k ∈ L ↔ k ∈ xs.map Sum.inr) ∧ L.length < 64 ∧ ∀ p, H p = none → Q (.ref p) (upd H p (.lst ((sortU xs).map V.str)))
def rSortQI (w : World) : List V → Hp → VK → Prop := fun vs H Q => ∃ (a : Addr) (L : List Key) (xs : List Int), vs = [V.ref a] ∧ H a = some (SetQO w a L) ∧ L.Nodup ∧ (∀ k, k ∈ L ↔ k ∈ xs.map Sum.inl) ∧ L.length < 64 ∧ ∀ p, H p = none → Q (.ref p) (upd H p (.lst ((sortI xs).map V.int)))
theorem all_inr : ∀ {L : List Key} {xs : List Str}, (∀ k ∈ L, k ∈ xs.map Sum.inr) → ∃ ys : List Str, L = ys.map Sum.inr ∧ ∀ y ∈ ys, y ∈ xs
  | [], _, _ => ⟨[], rfl, fun _ h => by cases h⟩
  | k :: L, xs, h => by
    obtain ⟨ys, e, hs⟩ := all_inr (L := L) (xs := xs) fun q hq => h q (List.mem_cons_of_mem _ hq)
    obtain ⟨y, hy, rfl⟩ := List.mem_map.mp (h k (List.mem_cons_self ..))
    exact ⟨y :: ys, by rw [e] <;> rfl, fun z hz => by
      rcases List.mem_cons.mp hz with rfl | hz
      · exact hy
      · exact hs z hz⟩
theorem all_inl : ∀ {L : List Key} {xs : List Int}, (∀ k ∈ L, k ∈ xs.map Sum.inl) → ∃ ys : List Int, L = ys.map Sum.inl ∧ ∀ y ∈ ys, y ∈ xs
  | [], _, _ => ⟨[], rfl, fun _ h => by cases h⟩
  | k :: L, xs, h => by
    obtain ⟨ys, e, hs⟩ := all_inl (L := L) (xs := xs) fun q hq => h q (List.mem_cons_of_mem _ hq)
    obtain ⟨y, hy, rfl⟩ := List.mem_map.mp (h k (List.mem_cons_self ..))
    exact ⟨y :: ys, by rw [e] <;> rfl, fun z hz => by
      rcases List.mem_cons.mp hz with rfl | hz
      · exact hy
      · exact hs z hz⟩
theorem nodup_map' {α β : Type} (f : α → β) : ∀ {l : List α}, (l.map f).Nodup → l.Nodup
  | [], _ => List.nodup_nil
  | x :: l, h => by
    rw [List.map_cons, List.nodup_cons] at h
    exact List.nodup_cons.mpr ⟨fun z => h.1 (List.mem_map.mpr ⟨x, z, rfl⟩), nodup_map' f h.2⟩
theorem strs_perm {us vs : List Value} {xs : List Str} (p : vs.Perm us) (h : StrsAre us xs) : ∃ ys, StrsAre vs ys ∧ ys.Perm xs := by
  induction p generalizing xs with
  | nil =>
    cases h
    exact ⟨[], .nil, List.Perm.nil⟩
  | cons x _ ih =>
    cases h with
    | cons y t h =>
      obtain ⟨ys, h1, h2⟩ := ih h
      exact ⟨y :: ys, .cons y t h1, h2.cons y⟩
  | swap x y l =>
    cases h with
    | cons a t h =>
      cases h with
      | cons b u h => exact ⟨_, .cons b u (.cons a t h), List.Perm.swap _ _ _⟩
  | trans p1 p2 ih1 ih2 =>
    obtain ⟨ys, h1, h2⟩ := ih2 h
    obtain ⟨zs, h3, h4⟩ := ih1 h1
    exact ⟨zs, h3, h4.trans h2⟩
theorem ints_perm {us vs : List Value} {xs : List Int} (p : vs.Perm us) (h : IntsAre us xs) : ∃ ys, IntsAre vs ys ∧ ys.Perm xs := by
  induction p generalizing xs with
  | nil =>
    cases h
    exact ⟨[], .nil, List.Perm.nil⟩
  | cons x _ ih =>
    cases h with
    | cons y t h =>
      obtain ⟨ys, h1, h2⟩ := ih h
      exact ⟨y :: ys, .cons y t h1, h2.cons y⟩
  | swap x y l =>
    cases h with
    | cons a t h =>
      cases h with
      | cons b u h => exact ⟨_, .cons b u (.cons a t h), List.Perm.swap _ _ _⟩
  | trans p1 p2 ih1 ih2 =>
    obtain ⟨ys, h1, h2⟩ := ih2 h
    obtain ⟨zs, h3, h4⟩ := ih1 h1
    exact ⟨zs, h3, h4.trans h2⟩
theorem strs_vals {K : Frag} {H : Hp} : ∀ {vs : List V} {xs : List Str}, DtAll K H vs (xs.map PyData.str) → vs = xs.map V.str
  | _, [], h => by cases h; rfl
  | _, x :: xs, h => by
    cases h with
    | cons h1 h2 =>
      rw [dp_str h1, strs_vals h2]
      rfl
theorem ints_vals {K : Frag} {H : Hp} : ∀ {vs : List V} {xs : List Int}, DtAll K H vs (xs.map PyData.int) → vs = xs.map V.int
  | _, [], h => by cases h; rfl
  | _, x :: xs, h => by
    cases h with
    | cons h1 h2 =>
      rw [dp_int h1, ints_vals h2]
      rfl
section
variable {X : Cx}
theorem crSet (hc : X.calm = true) : CallR X (.type "set") (rSetQ X.K X.w) := by
  intro pins s σ H xs us Q I r h
  obtain ⟨l, ks, rfl, hl, few, q⟩ := h
  rw [Vals.ref1 r]
  obtain ⟨its, rv, pl, hz⟩ := I.list hl
  have hn : H s.heap.objs.size = none := I.hok.fresh (Nat.le_refl _)
  refine setQ_of (P := X.prog) (w := X.w) ks (I.ok.hd hc) pl.isList (by simpa using rv) few fun h' tk R k => ?_
  exact ⟨.ref s.heap.objs.size, upd H s.heap.objs.size (SetQO X.w s.heap.objs.size _), I.laid (t' := tk) k (Nat.le_refl _) (setQO_new R), rfl, q _ hn⟩
theorem crSortS (hc : X.calm = true) : CallR X (.builtin "sorted") (rSortQS X.w) := by
  intro pins s σ H vs us Q I r h
  obtain ⟨a, L, xs, rfl, ha, nd, hm, h64, q⟩ := h
  rw [Vals.ref1 r]
  obtain ⟨o, es, ep, t, ob, oe, od, gq, pm0, nd0, few, fit, ri, le⟩ := (show SetQ X.w s.heap a L from (I.hok a _ ha).1)
  obtain ⟨zs, ez, hz⟩ := all_inr (L := es.toList.map kOf) (xs := xs) fun k hk => (hm k).mp (pm0.mem_iff.mp hk)
  refine Calls.call_function_entry kind_sorted plain_sorted entry_sorted (args_sorted1 _) ?_
  unfold Builtin.«sorted»
  refine wpAny_bind (m := checkCount "sorted" 1 1 _) (wpAny_pure ?after)
  case after =>
  refine wpAny_bind (collect_set (A := X.A.in1) (I.ok.hd hc) ⟨o, ob, oe.1, od⟩ fit few ri le fun s1 vs k1 sz g1 o1 pm => ?_)
  have hS0 : StrsAre (es.toList.map (·.2)) zs := strs_of_keys _ _ gq ez
  have lenE : es.toList.length < 64 := by
    have z := pm0.length_eq
    rw [List.length_map] at z
    omega
  have lenV : vs.length < 64 := by rw [pm.length_eq, List.length_map]; exact lenE
  obtain ⟨zs2, hS, pz⟩ : ∃ zs2, StrsAre vs zs2 ∧ zs2.Perm zs := strs_perm pm hS0
  refine wpAny_bind (wpAny_newList ?_ (by rw [sizeLine_eq]; omega))
  have obL : (s1.heap.push (seqObj "list" vs.toArray 0)).get? s1.heap.objs.size = some (seqObj "list" vs.toArray 0) := Heap.get?_push_size _ rfl
  refine wpAny_bind (wpAny_holding (wpAny_call_entry slot_list_sort ⟨_, obL, rfl⟩ entry_list_sort (list_sort_treeK strKind_oneLt obL hS.keysOf (fun v₁ v₂ rest e => keyKind_strs (by rw [← e]; exact hS)) lenV fun st' hp hs => ⟨_, rfl, ?_⟩) (args_list_sort _)))
  obtain ⟨ys, y1, y2, y3⟩ := sorted_out_str hS hp hs
  obtain ⟨c, hc2⟩ := sortedHeap_at (vs := vs) (out := (arrOf st').map (·.2)) obL
  have ndz : zs.Nodup := by
    have z : (es.toList.map kOf).Nodup := pm0.nodup_iff.mpr nd
    rw [ez] at z
    exact nodup_map' _ z
  have ey : ys = sortU xs := by
    refine sortU_eq ((y2.trans pz).nodup_iff.mpr ndz) (fun x => ?_) y3
    rw [(y2.trans pz).mem_iff]
    refine ⟨hz x, fun hx => ?_⟩
    have z : (Sum.inr x : Key) ∈ es.toList.map kOf := pm0.mem_iff.mpr ((hm _).mpr (List.mem_map.mpr ⟨x, hx, rfl⟩))
    rw [ez] at z
    obtain ⟨x', hx', e⟩ := List.mem_map.mp z
    cases e
    exact hx'
  have ll : (ys.map V.str).length ≤ sizeLine := by
    rw [List.length_map, (y2.trans pz).length_eq, ← List.length_map (f := (Sum.inr : Str → Key)), ← ez, List.length_map, sizeLine_eq]
    omega
  have hn : H s1.heap.objs.size = none := I.hok.fresh sz
  have kp : ∀ b u, s.heap.get? b = some u → (sortedHeap (s1.heap.push (seqObj "list" vs.toArray 0)) s1.heap.objs.size vs ((arrOf st').map (·.2))).get? b = some u := fun b u e => by
    have q := k1 b u e
    have lt := Heap.lt_size q
    rw [sortedHeap_old (Nat.ne_of_lt lt) (by rw [size_push']; exact Nat.lt_succ_of_lt lt)]
    exact Heap.get?_push_of_some _ q
  have ob2 : ObjOk X.prog X.w (upd H s1.heap.objs.size (.lst (ys.map V.str))) (sortedHeap (s1.heap.push (seqObj "list" vs.toArray 0)) s1.heap.objs.size vs ((arrOf st').map (·.2))) s1.heap.objs.size (.lst (ys.map V.str)) :=
    ⟨ll, ((arrOf st').map (·.2)).toList, c, vals_of_strs y1, by rw [Array.toArray_toList]; exact hc2⟩
  obtain ⟨h1, gg, dd, tt, oo⟩ := s1
  have eo : oo = s.os := o1
  have eg : gg = s.gens := g1
  subst eo
  subst eg
  have J : Inv X pins σ (upd H h1.objs.size (.lst (ys.map V.str))) { s with heap := sortedHeap (h1.push (seqObj "list" vs.toArray 0)) h1.objs.size vs ((arrOf st').map (·.2)), gens := s.gens, drawn := dd, toks := tt } :=
    I.call (ch := []) (Un.laid kp sz hn) (I.hok.laid kp sz ob2) I.bare (fun _ z => nomatch z)
  refine wpAny_pure ⟨_, rfl, ?_⟩
  rw [ey] at J
  exact ⟨.ref h1.objs.size, _, J, rfl, q _ hn⟩
theorem crSortI (hc : X.calm = true) : CallR X (.builtin "sorted") (rSortQI X.w) := by
  intro pins s σ H vs us Q I r h
  obtain ⟨a, L, xs, rfl, ha, nd, hm, h64, q⟩ := h
  rw [Vals.ref1 r]
  obtain ⟨o, es, ep, t, ob, oe, od, gq, pm0, nd0, few, fit, ri, le⟩ := (show SetQ X.w s.heap a L from (I.hok a _ ha).1)
  obtain ⟨zs, ez, hz⟩ := all_inl (L := es.toList.map kOf) (xs := xs) fun k hk => (hm k).mp (pm0.mem_iff.mp hk)
  refine Calls.call_function_entry kind_sorted plain_sorted entry_sorted (args_sorted1 _) ?_
  unfold Builtin.«sorted»
  refine wpAny_bind (m := checkCount "sorted" 1 1 _) (wpAny_pure ?after)
  case after =>
  refine wpAny_bind (collect_set (A := X.A.in1) (I.ok.hd hc) ⟨o, ob, oe.1, od⟩ fit few ri le fun s1 vs k1 sz g1 o1 pm => ?_)
  have hS0 : IntsAre (es.toList.map (·.2)) zs := ints_of_keys _ _ gq ez
  have lenE : es.toList.length < 64 := by
    have z := pm0.length_eq
    rw [List.length_map] at z
    omega
  have lenV : vs.length < 64 := by rw [pm.length_eq, List.length_map]; exact lenE
  obtain ⟨zs2, hS, pz⟩ : ∃ zs2, IntsAre vs zs2 ∧ zs2.Perm zs := ints_perm pm hS0
  refine wpAny_bind (wpAny_newList ?_ (by rw [sizeLine_eq]; omega))
  have obL : (s1.heap.push (seqObj "list" vs.toArray 0)).get? s1.heap.objs.size = some (seqObj "list" vs.toArray 0) := Heap.get?_push_size _ rfl
  refine wpAny_bind (wpAny_holding (wpAny_call_entry slot_list_sort ⟨_, obL, rfl⟩ entry_list_sort (list_sort_tree obL hS lenV fun out ys y1 y2 y3 => ⟨_, rfl, ?_⟩) (args_list_sort _)))
  obtain ⟨c, hc2⟩ := sortedHeap_at (vs := vs) (out := out) obL
  have ndz : zs.Nodup := by
    have z : (es.toList.map kOf).Nodup := pm0.nodup_iff.mpr nd
    rw [ez] at z
    exact nodup_map' _ z
  have ey : ys = sortI xs := by
    refine sortI_eq ((y2.trans pz).nodup_iff.mpr ndz) (fun x => ?_) y3
    rw [(y2.trans pz).mem_iff]
    refine ⟨hz x, fun hx => ?_⟩
    have z : (Sum.inl x : Key) ∈ es.toList.map kOf := pm0.mem_iff.mpr ((hm _).mpr (List.mem_map.mpr ⟨x, hx, rfl⟩))
    rw [ez] at z
    obtain ⟨x', hx', e⟩ := List.mem_map.mp z
    cases e
    exact hx'
  have ll : (ys.map V.int).length ≤ sizeLine := by
    rw [List.length_map, (y2.trans pz).length_eq, ← List.length_map (f := (Sum.inl : Int → Key)), ← ez, List.length_map, sizeLine_eq]
    omega
  have hn : H s1.heap.objs.size = none := I.hok.fresh sz
  have kp : ∀ b u, s.heap.get? b = some u → (sortedHeap (s1.heap.push (seqObj "list" vs.toArray 0)) s1.heap.objs.size vs out).get? b = some u := fun b u e => by
    have q := k1 b u e
    have lt := Heap.lt_size q
    rw [sortedHeap_old (Nat.ne_of_lt lt) (by rw [size_push']; exact Nat.lt_succ_of_lt lt)]
    exact Heap.get?_push_of_some _ q
  have ob2 : ObjOk X.prog X.w (upd H s1.heap.objs.size (.lst (ys.map V.int))) (sortedHeap (s1.heap.push (seqObj "list" vs.toArray 0)) s1.heap.objs.size vs out) s1.heap.objs.size (.lst (ys.map V.int)) :=
    ⟨ll, out.toList, c, vals_of_ints y1, by rw [Array.toArray_toList]; exact hc2⟩
  obtain ⟨h1, gg, dd, tt, oo⟩ := s1
  have eo : oo = s.os := o1
  have eg : gg = s.gens := g1
  subst eo
  subst eg
  have J : Inv X pins σ (upd H h1.objs.size (.lst (ys.map V.int))) { s with heap := sortedHeap (h1.push (seqObj "list" vs.toArray 0)) h1.objs.size vs out, gens := s.gens, drawn := dd, toks := tt } :=
    I.call (ch := []) (Un.laid kp sz hn) (I.hok.laid kp sz ob2) I.bare (fun _ z => nomatch z)
  refine wpAny_pure ⟨_, rfl, ?_⟩
  rw [ey] at J
  exact ⟨.ref h1.objs.size, _, J, rfl, q _ hn⟩
end
end LC
namespace LC
open PySem PySem.Spec PyProof.Rows L2 Evl
section
variable {X : Cx} {K : Frag} {w : World}
theorem kSet (h : X.K = K) (hw : X.w = w) (hc : X.calm = true) : CallR X (.type "set") (rSetQ K w) := by
  subst h hw
  exact crSet hc
def rSortU (w : World) : List V → Hp → VK → Prop := fun vs H Q => rSortQS w vs H Q ∨ rSortQI w vs H Q
theorem kSort (hw : X.w = w) (hc : X.calm = true) : CallR X (.builtin "sorted") (rSortU w) := by
  subst hw
  exact CallR.or (crSortS hc) (crSortI hc)
end
section
variable {K : Frag} {w : World} {σ : L2.St} {H : Hp} {te : TE}
theorem foldK_nodup : ∀ (ks L : List Key), L.Nodup → (ks.foldl addK L).Nodup
  | [], L, h => h
  | k :: ks, L, h => by
    refine foldK_nodup ks (addK L k) ?_
    unfold addK
    split
    · exact h
    · rename_i n
      exact List.nodup_cons.mpr ⟨n, h⟩
/-- sorted(set(xs)), xs a list of texts; of ints -/
theorem evd_sortS {xs : List Str} (h : EvD K te σ H (.list (xs.map PyData.str))) (hl : xs.length < 60) : EvD K (tCB (rSortU w) (tCons (tCB (rSetQ K w) (tCons te tNil)) tNil)) σ H (.list ((sortU xs).map PyData.str)) := fun H1 e Q q =>
  h H1 e _ fun v H2 A g hd => by
    obtain ⟨a, vs, rfl, hs, hall⟩ := dp_lst hd
    have ev : vs = (xs.map (Sum.inr : Str → Key)).map kV := by
      rw [List.map_map]
      exact strs_vals hall
    refine ⟨a, xs.map Sum.inr, rfl, sq_of (by rw [← ev]; exact g.d2 _ _ hs), by rw [List.length_map]; unfold scanBound; omega, fun b hb => ?_⟩
    have ll := foldl_addK_len (xs.map (Sum.inr : Str → Key)) []
    rw [List.length_map, List.length_nil] at ll
    refine .inl ⟨b, _, xs, rfl, upd_same, foldK_nodup _ [] List.nodup_nil, fun k => by rw [mem_foldK]; simp, by omega, fun p hp => ?_⟩
    have hp2 : H2 p = none := fresh_back (Ex.new hb) hp
    have npb : p ≠ b := fun z => by rw [z, upd_same] at hp; cases hp
    have g2 : Gr H H1 (upd (upd H2 b (SetQO w b ((xs.map (Sum.inr : Str → Key)).foldl addK []))) p (.lst ((sortU xs).map V.str))) (upd A p (.lst ((sortU xs).map V.str))) := (g.more (Ex.new hb)).new _ hp
    exact q _ _ _ g2 (.lst upd_same (dt_strs _))
theorem evd_sortI {xs : List Int} (h : EvD K te σ H (.list (xs.map PyData.int))) (hl : xs.length < 60) : EvD K (tCB (rSortU w) (tCons (tCB (rSetQ K w) (tCons te tNil)) tNil)) σ H (.list ((sortI xs).map PyData.int)) := fun H1 e Q q =>
  h H1 e _ fun v H2 A g hd => by
    obtain ⟨a, vs, rfl, hs, hall⟩ := dp_lst hd
    have ev : vs = (xs.map (Sum.inl : Int → Key)).map kV := by
      rw [List.map_map]
      exact ints_vals hall
    refine ⟨a, xs.map Sum.inl, rfl, sq_of (by rw [← ev]; exact g.d2 _ _ hs), by rw [List.length_map]; unfold scanBound; omega, fun b hb => ?_⟩
    have ll := foldl_addK_len (xs.map (Sum.inl : Int → Key)) []
    rw [List.length_map, List.length_nil] at ll
    refine .inr ⟨b, _, xs, rfl, upd_same, foldK_nodup _ [] List.nodup_nil, fun k => by rw [mem_foldK]; simp, by omega, fun p hp => ?_⟩
    have g2 : Gr H H1 (upd (upd H2 b (SetQO w b ((xs.map (Sum.inl : Int → Key)).foldl addK []))) p (.lst ((sortI xs).map V.int))) (upd A p (.lst ((sortI xs).map V.int))) := (g.more (Ex.new hb)).new _ hp
    exact q _ _ _ g2 (.lst upd_same (dt_ints _))
end
end LC

namespace LC
open PySem PySem.Spec PyProof.Rows L2 Evl
/-! ### defs that raise -/
def veB : List Value := [.type "ValueError", .type "Exception", .type "BaseException", .type "object"]
structure ExcF (K : Frag) (mg : Str → Option Value) (x : Str) (c : Addr) : Prop where
  q : PySem.W.excIn K c veB "ValueError.__new__" = true
  g : mg x = some (.ref c)
  k : PySem.W.keepIn K (.ref c) = true
  b : PySem.W.subIn K (.ref c) (.type "BaseException") = some true
  t : PySem.W.typeIn K (.ref c) = some (.type "type")
section
variable {P : Program} {w : World} {K : Frag} {mg : Str → Option Value} {base : Heap} {x q : Str} {st : Stmt} {f : Addr} {fd : FuncData} {N ps : List Str} {k : Nat} {sp : Sp}
theorem has_x (F : FnP K x q st f fd) (g : mg x = some (.ref f)) (b : Binds K fd ps []) (S : FnScope N ps (defScope st)) (len : ∀ vs H Q E, sp vs H Q E → vs.length = ps.length)
    (hbody : ∀ (cdv : Value) (A : Around) (outer : List Env) (s : Shared) (H : Hp) (vs : List V) (Q : VK) (E : XK), Room k (A.deeper (envOfC q (defScope st) s.heap.objs.size f cdv)) → sp vs H Q E →
      ∃ t, PSs (cxOf (L2.CX P w) P w K mg base N q (defScope st) f cdv A outer s H E) (defBody st) t ∧ t { nx := fun _ H' => Q .non H', rt := Q } (start N vs) H) : Has P w K mg base (L2.CX P w) (k + 1) x ps sp :=
  ⟨f, fd, F.ok S len hbody, b, F.kp, g⟩
theorem has_p (F : FnP K x q st f fd) (g : mg x = some (.ref f)) (b : Binds K fd ps []) (S : FnScope N ps (defScope st)) (len : ∀ vs H Q E, sp vs H Q E → vs.length = ps.length)
    (hbody : ∀ (cdv : Value) (A : Around) (outer : List Env) (s : Shared) (H : Hp) (vs : List V) (Q : VK) (E : XK), Room k (A.deeper (envOfC q (defScope st) s.heap.objs.size f cdv)) → sp vs H Q E →
      ∃ t, PSs (cxOf CX0 P w K mg base N q (defScope st) f cdv A outer s H E).nox (defBody st) t ∧ t { nx := fun _ H' => Q .non H', rt := Q } (start N vs) H) : Has P w K mg base CX0 (k + 1) x ps sp :=
  ⟨f, fd, F.ok S len (fun cdv A outer s H vs Q E hr h => by
    obtain ⟨t, ht, r⟩ := hbody cdv A outer s H vs Q E hr h
    exact ⟨t, PSs.nox ht, r⟩), b, F.kp, g⟩
end
/-- a promise over data that may be refused with the class at cB -/
def spDX (K : Frag) (cB : Addr) (F : List PyData → Option PyData → Prop) : Sp := fun vs H Q E => ∃ ds o H0, Ex H0 H ∧ DtAll K H0 vs ds ∧ F ds o ∧ (∀ d, o = some d → Rt K H0 H d Q) ∧ (o = none → ∀ H2, Ex H H2 → E (.ref cB) none H2)
def F_look (ds : List PyData) (o : Option PyData) : Prop := ∃ d, ds = [d] ∧ okD d = true ∧ o = if isSource d then some .none else none
/-! ### what is a source is one by its tree -/
theorem isSum_dec : ∀ (n : Nat) (d : PyData), isSum n d = true → ∃ s : Sm, d = s.enc ∧ s.good = true ∧ s.depth ≤ n := by
  intro n
  induction n with
  | zero =>
    intro d h
    cases d with
    | str s => exact ⟨.nm s, rfl, by unfold isSum at h; exact h, Nat.zero_le _⟩
    | int i => exact ⟨.num i, rfl, by unfold isSum isWithin at h; exact h, Nat.zero_le _⟩
    | tuple ds => simp [isSum] at h
    | _ => simp [isSum, isWithin] at h
  | succ n ih =>
    intro d h
    cases d with
    | str s => exact ⟨.nm s, rfl, by unfold isSum at h; exact h, Nat.zero_le _⟩
    | int i => exact ⟨.num i, rfl, by unfold isSum isWithin at h; exact h, Nat.zero_le _⟩
    | tuple ds =>
      match ds with
      | .str w :: r =>
        have h : (sumHead w (r.length + 1) && r.all (isSum n)) = true := h
        rw [Bool.and_eq_true] at h
        obtain ⟨h1, h2⟩ := h
        unfold sumHead at h1
        rw [Bool.or_eq_true, Bool.and_eq_true, Bool.and_eq_true] at h1
        rcases h1 with ⟨hw, hl⟩ | ⟨hw, hl⟩
        · match r with
          | [a, b] =>
            simp only [List.all_cons, List.all_nil, Bool.and_true, Bool.and_eq_true] at h2
            obtain ⟨sa, rfl, ga, da⟩ := ih a h2.1
            obtain ⟨sb, rfl, gb, db⟩ := ih b h2.2
            refine ⟨.op w sa sb, rfl, ?_, ?_⟩
            · show (decide (w ∈ wordsS) && (sa.good && sb.good)) = true
              rw [hw, ga, gb] <;> rfl
            · show max sa.depth sb.depth + 1 ≤ n + 1
              omega
          | [] => simp at hl
          | [_] => simp at hl
          | _ :: _ :: _ :: _ => simp at hl <;> omega
        · have ew : w = "if" := of_decide_eq_true hw
          subst ew
          match r with
          | [a, b, c] =>
            simp only [List.all_cons, List.all_nil, Bool.and_true, Bool.and_eq_true] at h2
            obtain ⟨sa, rfl, ga, da⟩ := ih a h2.1
            obtain ⟨sb, rfl, gb, db⟩ := ih b h2.2.1
            obtain ⟨sc, rfl, gc, dc⟩ := ih c h2.2.2
            refine ⟨.ite sa sb sc, rfl, ?_, ?_⟩
            · show (sa.good && (sb.good && sc.good)) = true
              rw [ga, gb, gc] <;> rfl
            · show max sa.depth (max sb.depth sc.depth) + 1 ≤ n + 1
              omega
          | [] => simp at hl
          | [_] => simp at hl
          | [_, _] => simp at hl
          | _ :: _ :: _ :: _ :: _ => simp at hl <;> omega
      | [] => simp [isSum] at h
      | .none :: _ => simp [isSum] at h
      | .bool _ :: _ => simp [isSum] at h
      | .int _ :: _ => simp [isSum] at h
      | .list _ :: _ => simp [isSum] at h
      | .tuple _ :: _ => simp [isSum] at h
      | .dict _ :: _ => simp [isSum] at h
    | _ => simp [isSum, isWithin] at h
theorem isRow_dec (d : PyData) (h : isRow d = true) : ∃ r : Rw, d = r.enc ∧ r.good = true := by
  unfold isRow at h
  split at h
  · rename_i w a
    rw [Bool.and_eq_true] at h
    have ew : w = "show" := of_decide_eq_true h.1
    subst ew
    obtain ⟨s, rfl, g, dp⟩ := isSum_dec 6 a h.2
    refine ⟨.shw s, rfl, ?_⟩
    show (s.good && decide (s.depth ≤ 6)) = true
    rw [g, decide_eq_true dp] <;> rfl
  · rename_i w y a
    rw [Bool.and_eq_true, Bool.and_eq_true] at h
    have ew : w = "set" := of_decide_eq_true h.1
    subst ew
    obtain ⟨s, rfl, g, dp⟩ := isSum_dec 6 a h.2.2
    cases y with
    | str x =>
      refine ⟨.set x s, rfl, ?_⟩
      show (nameS x && (s.good && decide (s.depth ≤ 6))) = true
      have hx : nameS x = true := h.2.1
      rw [hx, g, decide_eq_true dp] <;> rfl
    | _ => have z := h.2.1; simp [isName] at z
  · cases h
theorem isSource_dec (d : PyData) (h : isSource d = true) : ∃ src : Src, d = encS src ∧ goodS src = true := by
  cases d with
  | tuple rs =>
    have h : (decide (rs.length ≤ 8) && rs.all isRow) = true := h
    rw [Bool.and_eq_true, List.all_eq_true] at h
    have key : ∀ l : List PyData, (∀ d ∈ l, isRow d = true) → ∃ src : Src, l = src.map Rw.enc ∧ ∀ r ∈ src, r.good = true := by
      intro l
      induction l with
      | nil => intro _; exact ⟨[], rfl, fun _ z => by cases z⟩
      | cons d l ih =>
        intro hl
        obtain ⟨src, rfl, hs⟩ := ih fun q hq => hl q (List.mem_cons_of_mem _ hq)
        obtain ⟨r, rfl, hr⟩ := isRow_dec d (hl d (List.mem_cons_self ..))
        exact ⟨r :: src, rfl, fun q hq => by
          rcases List.mem_cons.mp hq with rfl | hq
          · exact hr
          · exact hs q hq⟩
    obtain ⟨src, rfl, hs⟩ := key rs h.2
    refine ⟨src, rfl, ?_⟩
    unfold goodS
    rw [Bool.and_eq_true, List.all_eq_true]
    have h1 := of_decide_eq_true h.1
    rw [List.length_map] at h1
    exact ⟨decide_eq_true h1, hs⟩
  | _ => simp [isSource] at h
def F_sets (ds : List PyData) (o : Option PyData) : Prop := ∃ d, ds = [d] ∧ okD d = true ∧ ((∃ src, d = encS src ∧ goodS src = true ∧ o = some (.list ((sortU (setsOf src)).map PyData.str))) ∨ (isSource d = false ∧ o = none))
def F_reads (ds : List PyData) (o : Option PyData) : Prop := ∃ d, ds = [d] ∧ okD d = true ∧ ((∃ src, d = encS src ∧ goodS src = true ∧ o = some (.list ((readsOf src).map PyData.str))) ∨ (isSource d = false ∧ o = none))
theorem setsOf_len (src : Src) : (setsOf src).length ≤ src.length := by
  induction src with
  | nil => exact Nat.le_refl _
  | cons r src ih =>
    show (r.sets ++ setsOf src).length ≤ src.length + 1
    rw [List.length_append]
    have : r.sets.length ≤ 1 := by cases r <;> simp [Rw.sets]
    omega
section
variable {K : Frag} {σ : L2.St} {H0 H : Hp} {ta : TA} {D : Ends} {cB : Addr} {E : XK} {tw : TS} {F : List PyData → Option PyData → Prop}
/-- f(..) as a statement, f may refuse -/
theorem s_callX {ds : List PyData} {o : Option PyData} (h : EvDs K ta σ H0 ds) (x : Ex H0 H) (hf : F ds o) (k1 : ∀ d, o = some d → ∀ H1, Ex H H1 → D.nx σ H1) (k2 : o = none → ∀ H1, Ex H H1 → E (.ref cB) none H1) : tDrop (tCall (spDX K cB F) [] E ta) D σ H :=
  h H x _ fun vs H2 A g hd => ⟨ds, o, A, g.d2, by rw [List.append_nil]; exact hd, hf, fun d e v H3 B g3 _ => k1 d e H3 (g.ex.trans g3.ex), fun e H3 e3 => k2 e H3 (g.ex.trans e3)⟩
end
end LC

namespace LC
open PySem PySem.Spec PyProof.Rows L2 Evl
/-! ### one step behind the other: the base moves on -/
section
variable {K : Frag} {H0 H H1 H2 Hd Hd2 A Hs H' : Hp} {d : PyData} {Q : VK} {p : Addr} {out : List PyData} {σ : L2.St} {te : TE} {ta : TA} {D : Ends} {tu : TS} {i j : Nat}
theorem Gr.seq (g1 : Gr H0 H H1 Hd) (g2 : Gr Hd H1 H2 Hd2) : Gr H0 H H2 Hd2 := ⟨g1.ex.trans g2.ex, g1.xd.trans g2.xd, g2.d2, fun a h0 h1 => g2.fr a (g1.fr a h0 h1) (ne_none g1.ex h1)⟩
theorem Gr.refl (x : Ex H0 H) : Gr H0 H H H0 := Gr.base x (Ex.refl H)
theorem Rt.seq (k : Rt K H0 H d Q) (g : Gr H0 H H1 Hd) : Rt K Hd H1 d Q := fun v H2 Hd2 g2 => k v H2 Hd2 (g.seq g2)
theorem Acc.debase (a : Acc K Hd Hs p out H2) (g : Gr A H' H1 Hd) (x : Ex Hs H') : Acc K A Hs p out H2 := by
  obtain ⟨x0, B, acc, h1, h2, h3, h4, h5, h6⟩ := a
  exact ⟨x0, B, acc, h1, g.xd.trans h2, h3, h4, fun b hb hn => h5 b (g.fr b hb (ne_none x hn)) hn, h6⟩
theorem Acc.own (a : Acc K A Hs p out H') : H' p ≠ none := by
  obtain ⟨acc, q, _⟩ := a.at
  rw [q]
  exact fun z => nomatch z
/-- for k in range(n) -/
theorem s_forN {n : Nat} (h : EvDs K ta σ H0 [.int (n : Int)]) (x : Ex H0 H) (hn : n ≤ 100000) (Pv : Nat → L2.St → Hp → Prop) (h0 : ∀ H1, Ex H H1 → Pv 0 σ H1)
    (hs : ∀ (i : Nat) σ' H', i < n → Pv i σ' H' → tu { D with nx := Pv (i + 1), ct := Pv (i + 1), bk := D.nx } (σ'.set j (some (.int (i : Int)))) H') (hd : ∀ σ' H', Pv n σ' H' → D.nx σ' H') : tFor (iRng1 ta) (gName j) tu D σ H :=
  h H x _ fun ws H1 A gr hw => by
    obtain ⟨v, rfl, hv⟩ := dts1 hw
    rw [dp_int hv]
    refine ⟨n, rfl, by omega, by omega, for_range (lo := 0) (n := (n : Int).toNat) Pv (h0 H1 gr.ex) (fun i σ' H' hi q => ?_) fun σ' H' q => hd σ' H' (by rw [Int.toNat_natCast] at q; exact q)⟩
    have e0 : (0 : Int) + (i : Int) = (i : Int) := Int.zero_add _
    show tu { D with nx := Pv (i + 1), ct := Pv (i + 1), bk := D.nx } (σ'.set j (some (.int ((0 : Int) + (i : Int))))) H'
    rw [e0]
    exact hs i σ' H' (by omega) q
end
/-! ### the law's own numbers -/
def cellAt (ns : List Int) (k : Int) : Int := ns.getD k.toNat 0
def seedF (s k : Int) : Int := ((s * 1103515245 + 7919 * k + 12345) % 2147483647) ^ 5 % 2147483647
def spLcell (K : Frag) : Sp := fun vs H Q _ => ∃ (a : Addr) (ns : List Int) (k : Int), vs = [.ref a, .int k] ∧ SqL K H a (ns.map V.int) ∧ 0 ≤ k ∧ ns.length ≤ 63 ∧ ∀ H2, Ex H H2 → Q (.int (cellAt ns k)) H2
def F_seed (ds : List PyData) (d : PyData) : Prop := ∃ s k, ds = [.int s, .int k] ∧ d = .int (seedF s k)
def F_pick (ds : List PyData) (d : PyData) : Prop := ∃ s m : Int, ds = [.int s, .int m] ∧ 0 < m ∧ d = .int (s / 97 % m)
def leafs (s : Int) : List Sm := [.num (s / 7 % 10), .num (s / 7 % 4), .num (s / 7 % 10000), .num 0, .nm "a", .nm "b", .nm "c", .nm "wxyz", .nm "a", .nm "b"]
def lawLeaf (s : Int) : Sm := (leafs s).getD (s / 5 % 10).toNat (.num 0)
def lawWords : List Str := ["add", "less", "times", "over", "same", "if", "add"]
def lawWord (s : Int) : Str := lawWords.getD (s / 11 % 7).toNat "add"
def lawSum : Nat → Int → Sm
  | 0, s => lawLeaf s
  | n + 1, s => if s / 97 % 3 = 0 then lawLeaf s else if lawWord s = "if" then .ite (lawSum n (seedF s 0)) (lawSum n (seedF s 1)) (lawSum n (seedF s 2)) else .op (lawWord s) (lawSum n (seedF s 0)) (lawSum n (seedF s 1))
def F_lsum (n : Nat) (ds : List PyData) (d : PyData) : Prop := ∃ s : Int, ds = [.int s, .int (n : Int)] ∧ d = (lawSum n s).enc
theorem mod_lt10 (x m : Int) (h : 0 < m) : 0 ≤ x % m ∧ x % m < m := ⟨Int.emod_nonneg _ (by omega), Int.emod_lt_of_pos _ h⟩
theorem leaf_mem (s : Int) : lawLeaf s ∈ leafs s := by
  unfold lawLeaf
  have h := mod_lt10 (s / 5) 10 (by omega)
  rw [List.getD_eq_getElem?_getD, List.getElem?_eq_getElem (show (s / 5 % 10).toNat < (leafs s).length by show _ < 10; omega)]
  exact List.getElem_mem _
theorem leafs_good (s : Int) : ∀ q ∈ leafs s, q.good = true ∧ q.depth = 0 := by
  intro q hq
  have h1 := mod_lt10 (s / 7) 10 (by omega)
  have h2 := mod_lt10 (s / 7) 4 (by omega)
  have h3 := mod_lt10 (s / 7) 10000 (by omega)
  have na : nameS "a" = true := by decide +kernel
  have nb : nameS "b" = true := by decide +kernel
  have nc : nameS "c" = true := by decide +kernel
  have nw : nameS "wxyz" = true := by decide +kernel
  unfold leafs at hq
  simp only [List.mem_cons, List.not_mem_nil, or_false] at hq
  rcases hq with rfl | rfl | rfl | rfl | rfl | rfl | rfl | rfl | rfl | rfl
  · exact ⟨by show (decide _ && decide _) = true; rw [decide_eq_true h1.1, decide_eq_true (by omega)] <;> rfl, rfl⟩
  · exact ⟨by show (decide _ && decide _) = true; rw [decide_eq_true h2.1, decide_eq_true (by omega)] <;> rfl, rfl⟩
  · exact ⟨by show (decide _ && decide _) = true; rw [decide_eq_true h3.1, decide_eq_true (by omega)] <;> rfl, rfl⟩
  · exact ⟨by decide, rfl⟩
  · exact ⟨na, rfl⟩
  · exact ⟨nb, rfl⟩
  · exact ⟨nc, rfl⟩
  · exact ⟨nw, rfl⟩
  · exact ⟨na, rfl⟩
  · exact ⟨nb, rfl⟩
theorem word_mem (s : Int) : lawWord s ∈ lawWords := by
  unfold lawWord
  have h := mod_lt10 (s / 11) 7 (by omega)
  rw [List.getD_eq_getElem?_getD, List.getElem?_eq_getElem (show (s / 11 % 7).toNat < lawWords.length by show _ < 7; omega)]
  exact List.getElem_mem _
theorem word_good (s : Int) (h : ¬ lawWord s = "if") : lawWord s ∈ wordsS := by
  have q : lawWords.all (fun w => decide (w = "if") || decide (w ∈ wordsS)) = true := by decide +kernel
  have z := List.all_eq_true.mp q _ (word_mem s)
  rw [Bool.or_eq_true] at z
  rcases z with z | z
  · exact absurd (of_decide_eq_true z) h
  · exact of_decide_eq_true z
theorem lawSum_good : ∀ (n : Nat) (s : Int), (lawSum n s).good = true ∧ (lawSum n s).depth ≤ n
  | 0, s => by
    have h := leafs_good s _ (leaf_mem s)
    exact ⟨h.1, by show (lawLeaf s).depth ≤ 0; omega⟩
  | n + 1, s => by
    unfold lawSum
    have ih := fun k => lawSum_good n (seedF s k)
    split
    · have h := leafs_good s _ (leaf_mem s)
      exact ⟨h.1, by omega⟩
    · split
      · refine ⟨?_, ?_⟩
        · show (Sm.good _ && (Sm.good _ && Sm.good _)) = true
          rw [(ih 0).1, (ih 1).1, (ih 2).1] <;> rfl
        · show max _ (max _ _) + 1 ≤ n + 1
          have h0 := (ih 0).2
          have h1 := (ih 1).2
          have h2 := (ih 2).2
          omega
      · rename_i hw
        refine ⟨?_, ?_⟩
        · show (decide _ && (Sm.good _ && Sm.good _)) = true
          rw [decide_eq_true (word_good s hw), (ih 0).1, (ih 1).1] <;> rfl
        · show max _ _ + 1 ≤ n + 1
          have h0 := (ih 0).2
          have h1 := (ih 1).2
          omega
/-! a source drawn -/
def lawMany (s : Int) : Nat := ([s / 7 % 4, 1 + s / 7 % 3, s / 7 % 9].getD (s / 11 % 3).toNat 0).toNat
def lawDeep (s : Int) : Nat := if s / 13 % 9 = 0 then 6 else (s / 7 % 3).toNat
def lawName (s : Int) : Str := (["a", "b", "c", "wxyz"] : List Str).getD (s / 11 % 4).toNat "a"
def lawRow (one : Int) : Rw := if 0 < one / 97 % 3 then .set (lawName one) (lawSum (lawDeep one) (seedF one 1)) else .shw (lawSum (lawDeep one) (seedF one 1))
def lawSource (s : Int) : Src := (List.range (lawMany s)).map fun k : Nat => lawRow (seedF s (20 + (k : Int)))
def F_lsource (ds : List PyData) (d : PyData) : Prop := ∃ s : Int, ds = [.int s] ∧ d = encS (lawSource s)
theorem lawMany_le (s : Int) : lawMany s ≤ 8 := by
  unfold lawMany
  have h1 := mod_lt10 (s / 7) 4 (by omega)
  have h2 := mod_lt10 (s / 7) 3 (by omega)
  have h3 := mod_lt10 (s / 7) 9 (by omega)
  have h := mod_lt10 (s / 11) 3 (by omega)
  have hc : (s / 11 % 3).toNat = 0 ∨ (s / 11 % 3).toNat = 1 ∨ (s / 11 % 3).toNat = 2 := by omega
  rcases hc with e | e | e <;> rw [e] <;> simp <;> omega
theorem lawDeep_le (s : Int) : lawDeep s ≤ 6 := by
  unfold lawDeep
  have h2 := mod_lt10 (s / 7) 3 (by omega)
  split <;> omega
theorem lawName_good (s : Int) : nameS (lawName s) = true := by
  unfold lawName
  have h := mod_lt10 (s / 11) 4 (by omega)
  have hc : (s / 11 % 4).toNat = 0 ∨ (s / 11 % 4).toNat = 1 ∨ (s / 11 % 4).toNat = 2 ∨ (s / 11 % 4).toNat = 3 := by omega
  rcases hc with e | e | e | e <;> rw [e] <;> decide +kernel
theorem lawRow_good (s : Int) : (lawRow s).good = true := by
  have h := lawSum_good (lawDeep s) (seedF s 1)
  have hd := lawDeep_le s
  unfold lawRow
  split
  · show (nameS _ && (Sm.good _ && decide _)) = true
    rw [lawName_good, h.1, decide_eq_true (by omega)] <;> rfl
  · show (Sm.good _ && decide _) = true
    rw [h.1, decide_eq_true (by omega)] <;> rfl
theorem lawSource_good (s : Int) : goodS (lawSource s) = true := by
  unfold goodS lawSource
  rw [List.length_map, List.length_range, decide_eq_true (lawMany_le s), Bool.true_and, List.all_map, List.all_eq_true]
  intro k _
  exact lawRow_good _
theorem getD_atI {α : Type} (l : List α) (m : Int) (x : α) (h : 0 ≤ m) (hl : m < l.length) : atI l m = some (l.getD m.toNat x) := by
  obtain ⟨k, rfl⟩ : ∃ k : Nat, m = (k : Int) := ⟨m.toNat, by omega⟩
  refine atI_nat ?_
  rw [List.getD_eq_getElem?_getD, Int.toNat_natCast, List.getElem?_eq_getElem (by omega)]
  rfl
end LC
namespace LC
open PySem PySem.Spec PyProof.Rows L2 Evl
/-- .. with the def's address told -/
def HasF (P : Program) (w : World) (K : Frag) (mg : Str → Option Value) (base : Heap) (CX : CXT) (k : Nat) (x : Str) (ps : List Str) (sp : Sp) (f : Addr) (fd : FuncData) : Prop :=
  FnOk P w K mg base CX k f fd ps sp ∧ Binds K fd ps [] ∧ PySem.W.keepIn K (.ref f) = true ∧ mg x = some (.ref f)
def FU (F : Nat → List PyData → PyData → Prop) (m : Nat) (ds : List PyData) (d : PyData) : Prop := ∃ n, n ≤ m ∧ F n ds d
section
variable {P : Program} {w : World} {K : Frag} {mg : Str → Option Value} {base : Heap} {x q : Str} {st : Stmt} {f : Addr} {fd : FuncData} {N ps : List Str} {k j : Nat} {CX : CXT} {sp : Sp}
theorem HasF.has (h : HasF P w K mg base CX k x ps sp f fd) : Has P w K mg base CX k x ps sp := ⟨f, fd, h⟩
theorem HasF.union {F : Nat → List PyData → PyData → Prop} (m : Nat) (h : ∀ n, HasF P w K mg base CX (n + j) x ps (spD K (F n)) f fd) : Has P w K mg base CX (m + j) x ps (spD K (FU F m)) := by
  refine ⟨f, fd, ⟨fun vs H Q E z => ?_, fun A outer s H args us vs Q E hr e0 hb hv z => ?_⟩, (h 0).2⟩
  · obtain ⟨ds, d, H0, e, hd, ⟨n, _, hf⟩, hq⟩ := z
    exact (h n).1.len vs H Q E ⟨ds, d, H0, e, hd, hf, hq⟩
  · obtain ⟨ds, d, H0, e, hd, ⟨n, hn, hf⟩, hq⟩ := z
    exact (h n).1.run A outer s H args us vs Q E (hr.mono (by omega)) e0 hb hv ⟨ds, d, H0, e, hd, hf, hq⟩
theorem hasF_d {FF : List PyData → PyData → Prop} (F : FnP K x q st f fd) (g : mg x = some (.ref f)) (b : Binds K fd ps []) (S : FnScope N ps (defScope st)) (hl : ∀ ds d, FF ds d → ds.length = ps.length)
    (hbody : ∀ (cdv : Value) (A : Around) (outer : List Env) (s : Shared) (H : Hp) (vs : List V) (Q : VK) (E : XK) (ds : List PyData) (d : PyData) (H0 : Hp), Room k (A.deeper (envOfC q (defScope st) s.heap.objs.size f cdv)) →
      Ex H0 H → DtAll K H0 vs ds → FF ds d → (∀ v H2 Hd, Gr H0 H H2 Hd → Dt K Hd v d → Q v H2) →
      ∃ t, PSs (cxOf CX0 P w K mg base N q (defScope st) f cdv A outer s H E).nox (defBody st) t ∧ t { nx := fun _ H' => Q .non H', rt := Q } (start N vs) H) : HasF P w K mg base CX0 (k + 1) x ps (spD K FF) f fd := by
  refine ⟨F.ok S (fun vs H Q E h => ?_) (fun cdv A outer s H vs Q E hr h => ?_), b, F.kp, g⟩
  · obtain ⟨ds, d, H0, _, hd, hf, _⟩ := h
    rw [dpAll_len hd]
    exact hl ds d hf
  · obtain ⟨ds, d, H0, e, hd, hf, hq⟩ := h
    obtain ⟨t, ht, r⟩ := hbody cdv A outer s H vs Q E ds d H0 hr e hd hf hq
    exact ⟨t, PSs.nox ht, r⟩
end
end LC

namespace LC
open PySem PySem.Spec PyProof.Rows L2 Evl
section
variable {K : Frag} {σ : L2.St} {H : Hp} {ta : TA} {te : TE} {E : XK} {d : PyData}
theorem evd_callX {cB : Addr} {F : List PyData → Option PyData → Prop} {ds : List PyData} (h : EvDs K ta σ H ds) (hf : F ds (some d)) : EvD K (tCall (spDX K cB F) [] E ta) σ H d := fun H1 e Q q =>
  h H1 e _ fun vs H2 A g hd => ⟨ds, some d, A, g.d2, by rw [List.append_nil]; exact hd, hf, fun d' e' v H3 B g3 hv => q v H3 B (g.seq g3) (by cases e'; exact hv), fun z => by cases z⟩
theorem evd_cell {a : Addr} {ns : List Int} {k : Int} {ti : TE} (ha : Ev te σ H (.ref a)) (hk : Ev ti σ H (.int k)) (hS : SqL K H a (ns.map V.int)) (h0 : 0 ≤ k) (hl : ns.length ≤ 63) : EvD K (tCall (spLcell K) [] E (tCons te (tCons ti tNil))) σ H (.int (cellAt ns k)) :=
  evd_i fun H1 e Q q => ha H1 e _ fun H2 e2 => hk H2 (e.trans e2) _ fun H3 e3 => ⟨a, ns, k, rfl, ex_l ((e.trans e2).trans e3) hS, h0, hl, fun H4 e4 => q H4 ((e2.trans e3).trans e4)⟩
end
/-! shapes and equality of plain data -/
theorem shaped_of {d : PyData} (ok : okD d = true) (hd : d.depth ≤ 64) : SeqAt.shaped d = true := by
  have key : ∀ d : PyData, okD d = true → d.canLay0 = true := by
    intro d
    refine PyData.rec (motive_1 := fun d => okD d = true → d.canLay0 = true) (motive_2 := fun ds => okD.okAll ds = true → PyData.canLayAll0 ds = true) (motive_3 := fun _ => True) (motive_4 := fun _ => True) ?_ ?_ ?_ ?_ ?_ ?_ ?_ ?_ ?_ ?_ ?_ ?_ d
    · intro _; rfl
    · intro _ _; rfl
    · intro _ _; rfl
    · intro s h
      unfold okD at h
      unfold PyData.canLay0
      exact (Bool.and_eq_true_iff.mp h).2
    · intro ds ih h
      unfold okD at h
      unfold PyData.canLay0
      exact ih h
    · intro ds ih h
      unfold okD at h
      unfold PyData.canLay0
      exact ih h
    · intro _ _ h
      simp [okD] at h
    · intro _; rfl
    · intro d ds ih1 ih2 h
      unfold okD.okAll at h
      rw [Bool.and_eq_true] at h
      unfold PyData.canLayAll0
      rw [ih1 h.1, ih2 h.2] <;> rfl
    · trivial
    · intros; trivial
    · intros; trivial
  show (d.canLay0 && decide (d.depth ≤ 64)) = true
  rw [key d ok, decide_eq_true hd] <;> rfl
theorem depthAll_le : ∀ {ds : List PyData} {n : Nat}, (∀ d ∈ ds, d.depth ≤ n) → PyData.depthAll ds ≤ n
  | [], n, _ => by unfold PyData.depthAll; omega
  | d :: ds, n, h => by
    unfold PyData.depthAll
    have h1 := h d (List.mem_cons_self ..)
    have h2 := depthAll_le (ds := ds) (n := n) fun q hq => h q (List.mem_cons_of_mem _ hq)
    omega
theorem depth_list {ds : List PyData} {n : Nat} (h : ∀ d ∈ ds, d.depth ≤ n) : (PyData.list ds).depth ≤ n + 1 := by
  have := depthAll_le h
  unfold PyData.depth
  omega
theorem depth_tuple {ds : List PyData} {n : Nat} (h : ∀ d ∈ ds, d.depth ≤ n) : (PyData.tuple ds).depth ≤ n + 1 := by
  have := depthAll_le h
  unfold PyData.depth
  omega
theorem Sm.enc_depth : ∀ s : Sm, s.enc.depth ≤ s.depth
  | .num _ => by unfold Sm.enc PyData.depth; omega
  | .nm _ => by unfold Sm.enc PyData.depth; omega
  | .op w a b => by
    have h1 := Sm.enc_depth a
    have h2 := Sm.enc_depth b
    refine depth_tuple (n := max a.depth b.depth) fun d hd => ?_
    simp only [List.mem_cons, List.not_mem_nil, or_false] at hd
    rcases hd with rfl | rfl | rfl
    · unfold PyData.depth; omega
    · omega
    · omega
  | .ite a b c => by
    have h1 := Sm.enc_depth a
    have h2 := Sm.enc_depth b
    have h3 := Sm.enc_depth c
    refine depth_tuple (n := max a.depth (max b.depth c.depth)) fun d hd => ?_
    simp only [List.mem_cons, List.not_mem_nil, or_false] at hd
    rcases hd with rfl | rfl | rfl | rfl
    · unfold PyData.depth; omega
    · omega
    · omega
    · omega
theorem Rw.enc_depth {r : Rw} (h : r.good = true) : r.enc.depth ≤ 7 := by
  have g := Rw.good_sum h
  have hs := Sm.enc_depth r.sum
  cases r with
  | set x s =>
    refine depth_tuple (n := 6) fun d hd => ?_
    simp only [List.mem_cons, List.not_mem_nil, or_false] at hd
    rcases hd with rfl | rfl | rfl
    · unfold PyData.depth; omega
    · unfold PyData.depth; omega
    · exact Nat.le_trans hs g.2
  | shw s =>
    refine depth_tuple (n := 6) fun d hd => ?_
    simp only [List.mem_cons, List.not_mem_nil, or_false] at hd
    rcases hd with rfl | rfl
    · unfold PyData.depth; omega
    · exact Nat.le_trans hs g.2
theorem src_depth {src : Src} (h : goodS src = true) : (encS src).depth ≤ 8 := depth_tuple (n := 7) fun d hd => by
  obtain ⟨r, hr, rfl⟩ := List.mem_map.mp hd
  exact Rw.enc_depth (goodS_row h hr)
theorem src_shaped {src : Src} (h : goodS src = true) : SeqAt.shaped (encS src) = true := shaped_of (ok_src src h) (Nat.le_trans (src_depth h) (by decide))
theorem shaped_strs {l : List Str} (h : ∀ x ∈ l, nameS x = true) : SeqAt.shaped (.list (l.map PyData.str)) = true := by
  refine shaped_of (ok_lst_of fun d hd => ?_) (Nat.le_trans (depth_list (n := 0) fun d hd => ?_) (by decide))
  · obtain ⟨x, hx, rfl⟩ := List.mem_map.mp hd
    exact ok_of_name (h x hx)
  · obtain ⟨x, hx, rfl⟩ := List.mem_map.mp hd
    unfold PyData.depth
    omega
theorem names_good : ∀ (s : Sm), s.good = true → ∀ x ∈ s.names, nameS x = true
  | .num _, _, x, hx => by cases hx
  | .nm y, h, x, hx => by
    have e : x = y := by simpa [Sm.names] using hx
    rw [e]
    exact h
  | .op w a b, h, x, hx => by
    have h : (decide (w ∈ wordsS) && (a.good && b.good)) = true := h
    simp only [Bool.and_eq_true] at h
    have hx : x ∈ a.names ++ b.names := hx
    rcases List.mem_append.mp hx with q | q
    · exact names_good a h.2.1 x q
    · exact names_good b h.2.2 x q
  | .ite a b c, h, x, hx => by
    have h : (a.good && (b.good && c.good)) = true := h
    simp only [Bool.and_eq_true] at h
    have hx : x ∈ a.names ++ (b.names ++ c.names) := hx
    rcases List.mem_append.mp hx with q | q
    · exact names_good a h.1 x q
    · rcases List.mem_append.mp q with q | q
      · exact names_good b h.2.1 x q
      · exact names_good c h.2.2 x q
theorem addName_mem {ms f : List Str} {x y : Str} (h : y ∈ addName ms f x) : y ∈ f ∨ y = x := by
  unfold addName at h
  split at h
  · exact .inl h
  · rcases List.mem_append.mp h with q | q
    · exact .inl q
    · exact .inr (by simpa using q)
theorem foldl_addName_mem (ms : List Str) : ∀ (l f : List Str) (y : Str), y ∈ l.foldl (addName ms) f → y ∈ f ∨ y ∈ l
  | [], f, y, h => .inl h
  | x :: l, f, y, h => by
    rcases foldl_addName_mem ms l (addName ms f x) y h with q | q
    · rcases addName_mem q with q | q
      · exact .inl q
      · exact .inr (by rw [q]; exact List.mem_cons_self ..)
    · exact .inr (List.mem_cons_of_mem _ q)
theorem reads_good (src : Src) (h : ∀ r ∈ src, r.good = true) : ∀ acc : List Str × List Str, (∀ x ∈ acc.1, nameS x = true) → ∀ x ∈ (src.foldl readsGo acc).1, nameS x = true := by
  induction src with
  | nil => intro acc ha; exact ha
  | cons r src ih =>
    intro acc ha
    refine ih (fun q hq => h q (List.mem_cons_of_mem _ hq)) (readsGo acc r) fun x hx => ?_
    rw [readsGo_eq] at hx
    rcases foldl_addName_mem acc.2 _ _ x hx with q | q
    · exact ha x q
    · exact names_good _ (Rw.good_sum (h r (List.mem_cons_self ..))).1 x q
theorem readsOf_good {src : Src} (h : goodS src = true) : ∀ x ∈ readsOf src, nameS x = true := reads_good src (fun r hr => goodS_row h hr) ([], []) fun x hx => by cases hx
theorem mine_eq (src : Src) : ∀ acc : List Str × List Str, (src.foldl readsGo acc).2 = acc.2 ++ setsOf src := by
  induction src with
  | nil => intro acc; simp [setsOf]
  | cons r src ih =>
    intro acc
    rw [List.foldl_cons, ih (readsGo acc r), readsGo_eq]
    simp [setsOf]
theorem setsOf_good {src : Src} (h : goodS src = true) : ∀ x ∈ setsOf src, nameS x = true := fun x hx => by
  obtain ⟨r, hr, hx⟩ := List.mem_flatMap.mp hx
  have g := goodS_row h hr
  cases r with
  | set y s =>
    have e : x = y := by simpa [Rw.sets] using hx
    have g : (nameS y && (s.good && decide (s.depth ≤ 6))) = true := g
    rw [Bool.and_eq_true] at g
    rw [e]
    exact g.1
  | shw s => cases hx
theorem sortU_mem {x : Str} {xs : List Str} : x ∈ sortU xs ↔ x ∈ xs := by
  unfold sortU
  rw [(List.mergeSort_perm _ _).mem_iff, mem_nub]
def spLaw (K : Frag) : Sp := fun vs H Q _ => ∃ (a : Addr) (ns : List Int), vs = [.ref a] ∧ SqL K H a (ns.map V.int) ∧ ns.length ≤ 63 ∧ ∀ H', Q (.bl true) H'
def isShowD : PyData → Bool
  | .tuple (.str w :: _) => w == "show"
  | _ => false
def Rw.isShw : Rw → Bool
  | .shw _ => true
  | .set _ _ => false
theorem isShowD_enc (r : Rw) : isShowD r.enc = r.isShw := by
  cases r with
  | set x s =>
    show (("set" : Str) == "show") = false
    decide +kernel
  | shw s => rfl
theorem shows_data (src : Src) : ((src.map Rw.enc).filter isShowD).map id = (src.filter Rw.isShw).map Rw.enc := by
  rw [List.map_id, List.filter_map]
  congr 1
  refine List.filter_congr fun r _ => ?_
  exact isShowD_enc r
theorem shows_good {src : Src} (h : goodS src = true) : goodS (src.filter Rw.isShw) = true := by
  unfold goodS at h ⊢
  simp only [Bool.and_eq_true, decide_eq_true_eq, List.all_eq_true] at h ⊢
  exact ⟨Nat.le_trans (List.length_filter_le _ _) h.1, fun r hr => h.2 r (List.mem_filter.mp hr).1⟩
theorem shows_sets (src : Src) : setsOf (src.filter Rw.isShw) = [] := by
  unfold setsOf
  rw [List.flatMap_eq_nil_iff]
  intro r hr
  have h := (List.mem_filter.mp hr).2
  cases r with
  | set x s => cases h
  | shw s => rfl
theorem ev_isShow {K : Frag} {σ : L2.St} {H : Hp} {te : TE} {r : Rw} (h : EvD K te σ H r.enc) : Ev (tOp (rEqD K) (tOp (rIx K) te (tC (.int 0))) (tC (.str "show"))) σ H (.bl (isShowD r.enc)) := by
  cases r with
  | set x s => exact ev_is (ev_eq (evd_ixT (d := .str "set") h evd_int (atI_0 _ _)) evd_str (by decide +kernel) (by decide +kernel)) rfl
  | shw s => exact ev_is (ev_eq (evd_ixT (d := .str "show") h evd_int (atI_0 _ _)) evd_str (by decide +kernel) (by decide +kernel)) rfl
end LC

namespace LC
open PySem PySem.Spec PyProof.Rows L2 Evl
section
variable {P : Program} {w : World} {K : Frag} {mg : Str → Option Value} {base : Heap} {x q : Str} {st : Stmt} {f : Addr} {fd : FuncData} {N ps : List Str} {k : Nat} {sp : Sp}
theorem hasF_p (F : FnP K x q st f fd) (g : mg x = some (.ref f)) (b : Binds K fd ps []) (S : FnScope N ps (defScope st)) (len : ∀ vs H Q E, sp vs H Q E → vs.length = ps.length)
    (hbody : ∀ (cdv : Value) (A : Around) (outer : List Env) (s : Shared) (H : Hp) (vs : List V) (Q : VK) (E : XK), Room k (A.deeper (envOfC q (defScope st) s.heap.objs.size f cdv)) → sp vs H Q E →
      ∃ t, PSs (cxOf CX0 P w K mg base N q (defScope st) f cdv A outer s H E).nox (defBody st) t ∧ t { nx := fun _ H' => Q .non H', rt := Q } (start N vs) H) : HasF P w K mg base CX0 (k + 1) x ps sp f fd :=
  ⟨F.ok S len (fun cdv A outer s H vs Q E hr h => by
    obtain ⟨t, ht, r⟩ := hbody cdv A outer s H vs Q E hr h
    exact ⟨t, PSs.nox ht, r⟩), b, F.kp, g⟩
end
theorem map_strs (K : Frag) (xs : List Str) : (xs.map He.Dv.str).map (He.Dv.v K) = xs.map V.str := by rw [List.map_map] <;> rfl
theorem tup_strs {K : Frag} {x : Str} (xs : List Str) (h : He.tupB K x (xs.map He.Dv.str) = true) (H : Hp) : Dt K H (.ref (He.ga K x)) (.tuple (xs.map PyData.str)) := by
  refine .tup (xs := xs.map V.str) ?_ (dt_strs xs)
  rw [← map_strs K]
  exact He.tupB_ok h H
end LC

namespace LC
open PySem PySem.Spec PyProof.Rows L2 Evl
/-! ### a def that may raise, called in a try -/
section
variable {X : Cx} {CX : CXT} {k j : Nat} {x : Str} {ps : List Str} {sp : Sp} {E : L2.St → XK} {p pos : Pos} {e : Expr} {es : List Expr} {t : TA}
theorem pe_hasS (F : Has X.prog X.w X.K X.mg X.base CX k x ps sp) (hr : Room j X.A) (hk : k ≤ j) (hg : Gl X x) (hx : ∀ σ, PassesAt CX X σ (E σ)) (ha : PA X (e :: es) t) (hdb : (x == ("__debug__" : Str)) = false := by decide)
    (he : starEach (e :: es) X.env = (false, eval e X.env) :: starEach es X.env := by rfl) (hpl : (backTo pos (starEach es X.env)).any (·.1) = false := by rfl) : PE X (.Call (.Name x p) (e :: es) [] pos) (tCallS sp E t) := by
  obtain ⟨f, fd, G, b, kp, m⟩ := F
  exact pe_callS G (hr.mono hk) hg m kp b hx ha hdb he hpl
end
section
variable {K : Frag} {σ : L2.St} {H H0 H1 H' : Hp} {ta tb tc te : TE} {D : Ends} {d : PyData}
theorem ev_notIs {a b : Bool} (ha : EvD K ta σ H (.bool a)) (hb : EvD K tb σ H (.bool b)) : Ev (tOp rNotB ta tb) σ H (.bl (!decide (a = b))) := ev_opd ha hb fun x y H1 hx hy Q q => ⟨a, b, dp_bool hx, dp_bool hy, q⟩
theorem ev_isB {a b : Bool} (ha : EvD K ta σ H (.bool a)) (hb : EvD K tb σ H (.bool b)) : Ev (tOp rIsB ta tb) σ H (.bl (decide (a = b))) := ev_opd ha hb fun x y H1 hx hy Q q => ⟨a, b, dp_bool hx, dp_bool hy, q⟩
abbrev rLeS : R2 := fun x y H Q => ∃ i j, x = .str i ∧ y = .str j ∧ Q (.bl (!decide (j.cps.toList < i.cps.toList))) H
theorem kLeS {X : Cx} : OpR X (compareOp .LtE) rLeS := op_le_str
theorem ev_chainS {i j k : Str} (ha : EvD K ta σ H (.str i)) (hb : EvD K tb σ H (.str j)) (hc : EvD K tc σ H (.str k)) :
    Ev (tChain rLeS rLeS ta tb tc) σ H (.bl (!decide (j.cps.toList < i.cps.toList) && !decide (k.cps.toList < j.cps.toList))) := fun H1 e Q hq =>
  ev_str ha H1 e _ fun H2 e2 => ev_str hb H2 (e.trans e2) _ fun H3 e3 => ⟨i, j, rfl, rfl, _, rfl, by
    cases hp : !decide (j.cps.toList < i.cps.toList) with
    | true =>
      show tc σ H3 _
      refine ev_str hc H3 ((e.trans e2).trans e3) _ fun H4 e4 => ⟨j, k, rfl, rfl, ?_⟩
      have := hq H4 ((e2.trans e3).trans e4)
      rw [hp] at this
      exact this
    | false =>
      show Q (.bl false) H3
      have := hq H3 (e2.trans e3)
      rw [hp] at this
      exact this⟩
theorem Rt.retB {b : Bool} (k : Rt K H0 H (.bool b) D.rt) (x : Ex H0 H) (e : Ex H H1) (h : EvD K te σ H1 d) (hd : d = .bool b) : tRet te D σ H1 := by
  subst hd
  exact h H1 (Ex.refl _) _ fun v H2 Hd g hd => k v H2 H0 (Gr.base x (e.trans g.ex)) (by rw [dp_bool hd]; exact .bl b)
end
/-! ### the law's own words of a source -/
def sizesK : List (Key × V) := [(.inr "add", .int 3), (.inr "less", .int 3), (.inr "times", .int 3), (.inr "over", .int 3), (.inr "same", .int 3), (.inr "if", .int 4)]
abbrev sizesT : List (TE × TE) := [(tC (.str "add"), tC (.int 3)), (tC (.str "less"), tC (.int 3)), (tC (.str "times"), tC (.int 3)), (tC (.str "over"), tC (.int 3)), (tC (.str "same"), tC (.int 3)), (tC (.str "if"), tC (.int 4))]
theorem sizesK_merge : mergeK [] sizesK = sizesK := by decide +kernel
theorem s_sizes {D : Ends} {σ : L2.St} {H : Hp} {i : Nat} (k : ∀ p H1, Ex H H1 → H1 p = some (.dK sizesK) → D.nx (σ.set i (some (.ref p))) H1) : tAsg (tDisp sizesT) (gName i) D σ H := by
  intro p hp
  refine ⟨upd_same, sizesK, rfl, by decide, ?_⟩
  rw [sizesK_merge]
  exact k p _ (ex_upd (ex_upd (Ex.refl H) hp) hp) upd_same
def sizeOf (w : Str) : Int := if w ∈ wordsS then 3 else if w = "if" then 4 else 0
theorem sizes_val (w : Str) : (valV sizesK (.inr w)).getD (.int 0) = .int (sizeOf w) := by
  have key : ∀ z : Str, z = w ∨ ¬ z = w := fun z => Classical.em _
  unfold sizeOf wordsS
  by_cases h1 : w = "add"
  · subst h1; decide +kernel
  by_cases h2 : w = "less"
  · subst h2; decide +kernel
  by_cases h3 : w = "times"
  · subst h3; decide +kernel
  by_cases h4 : w = "over"
  · subst h4; decide +kernel
  by_cases h5 : w = "same"
  · subst h5; decide +kernel
  by_cases h6 : w = "if"
  · subst h6; decide +kernel
  have e : valV sizesK (.inr w) = none := by
    unfold sizesK
    rw [valV_neg, valV_neg, valV_neg, valV_neg, valV_neg, valV_neg]
    · rfl
    all_goals
      intro z
      have z := Sum.inr.inj z
      simp_all
  rw [e]
  simp [h1, h2, h3, h4, h5, h6]
theorem size_head (w : Str) (n : Nat) : (((n + 1 : Nat) : Int) == sizeOf w) = sumHead w (n + 1) := by
  unfold sizeOf sumHead
  by_cases h1 : w ∈ wordsS
  · have h2 : ¬ w = "if" := fun z => noIf (z ▸ h1)
    rw [if_pos h1, decide_eq_true h1, decide_eq_false h2, Bool.eq_iff_iff]
    simp
    omega
  · rw [if_neg h1, decide_eq_false h1]
    by_cases h2 : w = "if"
    · rw [if_pos h2, decide_eq_true h2, Bool.eq_iff_iff]
      simp
      omega
    · rw [if_neg h2, decide_eq_false h2, Bool.eq_iff_iff]
      simp
      omega
section
variable {K : Frag} {σ : L2.St} {H : Hp} {ty : TE} {w : Str} {i : Nat} {p : Addr}
theorem ev_sizeGet (hs : σ[i]? = some (some (.ref p))) (hp : H p = some (.dK sizesK)) (hw : EvD K ty σ H (.str w)) : Ev (tDGet2 (tVar i) ty (tC (.int 0))) σ H (.int (sizeOf w)) := fun H1 e Q q => by
  refine ⟨.ref p, hs, p, rfl, .inl ⟨_, .inl (e _ _ hp)⟩, ?_⟩
  refine hw H1 e _ fun v H2 Hd g hd => ?_
  rw [dp_str hd]
  have h2 : H2 p = some (.dK sizesK) := g.ex _ _ (e _ _ hp)
  refine ⟨_, DGet.k (k := .inr w) h2, ?_⟩
  rw [sizes_val]
  exact q H2 g.ex
end
/-- signs of a to z -/
theorem small_le (c : Nat) : (!decide ((⟨#[c]⟩ : Str).cps.toList < ("a" : Str).cps.toList) && !decide (("z" : Str).cps.toList < (⟨#[c]⟩ : Str).cps.toList)) = decide (c ∈ smallS.cps.toList) := by
  have ea : ("a" : Str).cps.toList = [97] := by decide +kernel
  have ez : ("z" : Str).cps.toList = [122] := by decide +kernel
  have es : smallS.cps.toList = (List.range 26).map (· + 97) := by decide +kernel
  rw [ea, ez, es]
  show (!decide ([c] < [97]) && !decide ([122] < [c])) = _
  rw [Bool.eq_iff_iff]
  simp only [Bool.and_eq_true, Bool.not_eq_true', decide_eq_false_iff_not, decide_eq_true_eq, List.mem_map, List.mem_range]
  have l1 : ([c] < [97]) ↔ c < 97 := by simp [List.cons_lt_cons_iff]
  have l2 : ([122] < [c]) ↔ 122 < c := by simp [List.cons_lt_cons_iff]
  rw [l1, l2]
  constructor
  · intro h
    exact ⟨c - 97, by omega, by omega⟩
  · rintro ⟨a, ha, rfl⟩
    omega
def barred7 : List Str := ["add", "less", "over", "same", "if", "set", "show"]
theorem name7 (z : Str) (hl : z.length ≤ 4) : decide (z ∈ barred7) = decide (z ∈ barredS) := by
  have ht : ("times" : Str).length = 5 := by decide +kernel
  have hn : ¬ z = "times" := fun e => by rw [e, ht] at hl; omega
  unfold barred7 barredS
  rw [Bool.eq_iff_iff]
  simp [hn]
def F_kname (ds : List PyData) (d : PyData) : Prop := ∃ z : Str, ds = [.str z] ∧ okD (.str z) = true ∧ d = .bool (nameS z)
def F_ksum (n : Nat) (ds : List PyData) (d : PyData) : Prop := ∃ x, ds = [x, .int (6 - (n : Int))] ∧ okD x = true ∧ x.depth ≤ 60 ∧ d = .bool (isSum n x)
def headOk : PyData → Bool
  | .tuple (h :: _) => flatD h
  | _ => true
def F_ksource (ds : List PyData) (d : PyData) : Prop := ∃ rs x, ds = [x] ∧ (x = .tuple rs ∨ (rs = [] ∧ isT x "tuple" = false)) ∧ okD x = true ∧ x.depth ≤ 60 ∧ (∀ r ∈ rs, headOk r = true) ∧ d = .bool (isSource x)
def F_none (ds : List PyData) (o : Option PyData) : Prop := ∃ d, ds = [d] ∧ okD d = true ∧ isSource d = false ∧ o = none
def F_kof (ds : List PyData) (o : Option PyData) : Prop := ∃ (i : Int) (d : PyData), ds = [.int i, d] ∧ okD d = true ∧ isSource d = false ∧ o = none
def Fnever (ds : List PyData) (d : PyData) : Prop := False
theorem eqv_nil (l : List PyData) : PyData.eqv (.list l) (.list []) = l.isEmpty := by cases l <;> rfl
theorem eqv_unit (l : List PyData) : PyData.eqv (.tuple l) (.tuple []) = l.isEmpty := by cases l <;> rfl
theorem depth_mem {ds : List PyData} {d : PyData} (h : d ∈ ds) : d.depth ≤ PyData.depthAll ds := by
  induction ds with
  | nil => cases h
  | cons e ds ih =>
    unfold PyData.depthAll
    rcases List.mem_cons.mp h with rfl | h
    · exact Nat.le_max_left _ _
    · exact Nat.le_trans (ih h) (Nat.le_max_right _ _)
theorem depth_tup {ds : List PyData} {d : PyData} {n : Nat} (h : (PyData.tuple ds).depth ≤ n) (hd : d ∈ ds) : d.depth ≤ n := by
  unfold PyData.depth at h
  have := depth_mem hd
  omega
end LC
namespace LC
open PySem PySem.Spec PyProof.Rows L2 Evl
section
variable {K : Frag} {σ : L2.St} {H H0 : Hp} {ta tb te : TE} {t : TT} {targs : TA} {D : Ends} {E : XK}
theorem dpAll_rep {vs : List V} {ds : List PyData} (h : DtAll K H vs ds) : ∀ n : Nat, DtAll K H (List.replicate n vs).flatten (List.replicate n ds).flatten
  | 0 => .nil
  | n + 1 => by
    rw [List.replicate_succ, List.replicate_succ, List.flatten_cons, List.flatten_cons]
    exact dpAll_app h (dpAll_rep h n)
theorem evd_mulT {ds : List PyData} {n : Int} (ha : EvD K ta σ H (.tuple ds)) (hb : EvD K tb σ H (.int n)) (h0 : ds ≠ []) (h2 : 2 ≤ n ∧ n ≤ 1000) (hl : ds.length ≤ 1000) : EvD K (tOp (rMulU K) ta tb) σ H (.tuple (List.replicate n.toNat ds).flatten) := evd_op ha hb fun x y H1 A e hx hy Q q => by
  obtain ⟨a, xs, rfl, hs, hall⟩ := dp_tup hx
  rw [dp_int hy]
  have hlen := dpAll_len hall
  refine .inr (.inr ⟨a, n, xs, rfl, rfl, ex_t e hs, ?_, h2.1, h2.2, by omega, fun p hp => q _ _ _ ((Gr.base (Ex.refl A |>.trans e) (Ex.refl H1)).new _ hp) (.tup (st_of upd_same) (dpAll_ex (Ex.new (fresh_back e hp)) _ _ (dpAll_rep hall _)))⟩)
  intro z
  rw [z] at hlen
  exact h0 (List.eq_nil_of_length_eq_zero hlen.symm)
theorem cut_take (ds : List PyData) (n : Nat) (h : n ≤ ds.length) : cutD ds none (some (n : Int)) = ds.take n := by
  have e : HT.sIx ds.length ds.length (some (n : Int)) = n := by
    rw [HT.sIx_nat]
    omega
  unfold cutD
  rw [e, HT.sIx_none]
  simp
theorem cut_drop (ds : List PyData) (n : Nat) (h : n ≤ ds.length) : cutD ds (some (n : Int)) none = ds.drop n := by
  have e : HT.sIx ds.length 0 (some (n : Int)) = n := by
    rw [HT.sIx_nat]
    omega
  unfold cutD
  rw [e, HT.sIx_none]
  rw [List.take_of_length_le]
  rw [List.length_drop]
  omega
/-- an if that is not taken, with nothing behind else -/
theorem s_skip {tu : TS} (h : EvT t σ H0 false) (x : Ex H0 H) (k : ∀ H1, Ex H H1 → D.nx σ H1) : tIfS t tu tNext D σ H := s_ifD h x (fun z => nomatch z) fun _ => k
/-- a call that is refused -/
theorem x_call {cB : Addr} {F : List PyData → Option PyData → Prop} {ds : List PyData} {Q : VK} (h : EvDs K targs σ H0 ds) (x : Ex H0 H) (hf : F ds none) (k : ∀ H1, Ex H H1 → E (.ref cB) none H1) : tCall (spDX K cB F) [] E targs σ H Q :=
  h H x _ fun vs H2 A g hd => ⟨ds, none, A, g.d2, by rw [List.append_nil]; exact hd, hf, fun d e => (nomatch e), fun e H3 e3 => k H3 (g.ex.trans e3)⟩
theorem x_if {b : Bool} {Q : VK} (h : EvT t σ H0 b) (x : Ex H0 H) (k1 : b = true → ∀ H1, Ex H H1 → ta σ H1 Q) (k2 : b = false → ∀ H1, Ex H H1 → tb σ H1 Q) : tIf t ta tb σ H Q := h H x _ fun H2 e2 => by
  cases b with
  | true => exact k1 rfl H2 e2
  | false => exact k2 rfl H2 e2
/-- .. in a try -/
theorem s_tryX {cB : Addr} {F : List PyData → Option PyData → Prop} {ds : List PyData} {ES : L2.St → XK} (h : EvDs K targs σ H0 ds) (x : Ex H0 H) (hf : F ds none) (k : ∀ H1, Ex H H1 → ES σ (.ref cB) none H1) : tDrop (tCallS (spDX K cB F) ES targs) D σ H :=
  h H x _ fun vs H2 A g hd => ⟨ds, none, A, g.d2, hd, hf, fun d e => (nomatch e), fun e H3 e3 => k H3 (g.ex.trans e3)⟩
end
/-! the law's spoilt rows -/
def deepD : Nat → PyData
  | 0 => .str "a"
  | n + 1 => .tuple [.str "add", deepD n, .int 1]
def odd1 : List PyData := [.none, .str "show", .tuple [], .tuple [.str "show"], .tuple [.str "show", .int 1, .int 2], .tuple [.str "set", .str "a"], .tuple [.str "set", .str "if", .int 1], .tuple [.str "set", .str "A", .int 1]]
def odd2 : List PyData := [.tuple [.str "set", .str "abcde", .int 1], .tuple [.str "put", .int 1], .list [.str "show", .int 1], .tuple [.int 1, .int 2], .tuple [.str "show", .int (-1)], .tuple [.str "show", .int 10000], .tuple [.str "show", .bool true]]
def odd3 : List PyData := [.tuple [.str "show", .str "show"], .tuple [.str "show", .tuple [.str "plus", .int 1, .int 2]], .tuple [.str "show", .tuple [.str "add", .int 1]], .tuple [.str "show", .tuple [.str "if", .int 1, .int 2]]]
def odd4 : List PyData := [.tuple [.str "show", .list [.str "add", .int 1, .int 2]], .tuple [.str "show", .tuple []]]
def odd5 : List PyData := [.tuple [.str "show", deepD 7], .tuple [.str "show", .none], .tuple [.str "set", .str "", .int 1]]
def oddD : List PyData := (((odd1 ++ odd2) ++ odd3) ++ odd4) ++ odd5
def rowsOf : PyData → List PyData
  | .tuple ds => ds
  | _ => []
def badOk (d : PyData) : Bool := okD d && (decide (d.depth ≤ 50) && (!isRow d && (headOk d && (rowsOf d).all headOk)))
theorem odd_ok : oddD.all badOk = true := by decide +kernel
theorem deep_ok : isSource (.tuple (List.replicate 8 [PyData.tuple [.str "show", deepD 6]]).flatten) = true := by decide +kernel
theorem odd_len : oddD.length = 24 := by decide +kernel
def badsD (src : Src) (bad : PyData) (k : Nat) : List PyData := [.tuple ((src.map Rw.enc).take k ++ [bad] ++ (src.map Rw.enc).drop k), .list (src.map Rw.enc), bad, .tuple (List.replicate 9 [PyData.tuple [.str "show", .int 1]]).flatten]
theorem badOk_iff {d : PyData} (h : badOk d = true) : okD d = true ∧ d.depth ≤ 50 ∧ isRow d = false ∧ headOk d = true ∧ (rowsOf d).all headOk = true := by
  unfold badOk at h
  simp only [Bool.and_eq_true, decide_eq_true_eq, Bool.not_eq_true'] at h
  exact h
theorem enc_head (r : Rw) : headOk r.enc = true := by cases r <;> rfl
theorem mem_spoilt {src : Src} {bad d : PyData} {k : Nat} (h : d ∈ (src.map Rw.enc).take k ++ [bad] ++ (src.map Rw.enc).drop k) : d = bad ∨ ∃ r ∈ src, d = r.enc := by
  simp only [List.mem_append, List.mem_singleton] at h
  rcases h with (h | h) | h
  · obtain ⟨r, hr, e⟩ := List.mem_map.mp (List.mem_of_mem_take h)
    exact .inr ⟨r, hr, e.symm⟩
  · exact .inl h
  · obtain ⟨r, hr, e⟩ := List.mem_map.mp (List.mem_of_mem_drop h)
    exact .inr ⟨r, hr, e.symm⟩
theorem bads_ok {src : Src} (hg : goodS src = true) {bad : PyData} (hb : badOk bad = true) (k : Nat) : ∀ d ∈ badsD src bad k, okD d = true ∧ d.depth ≤ 60 ∧ ∃ rs, (d = .tuple rs ∨ (rs = [] ∧ isT d "tuple" = false)) ∧ ∀ r ∈ rs, headOk r = true := by
  obtain ⟨b1, b2, b3, b4, b5⟩ := badOk_iff hb
  intro d hd
  unfold badsD at hd
  simp only [List.mem_cons, List.not_mem_nil, or_false] at hd
  rcases hd with rfl | rfl | rfl | rfl
  · refine ⟨ok_tup_of fun d hd => ?_, Nat.le_trans (depth_tuple (n := 50) fun d hd => ?_) (by decide), _, .inl rfl, fun d hd => ?_⟩
    · rcases mem_spoilt hd with rfl | ⟨r, hr, rfl⟩
      · exact b1
      · exact ok_row r (goodS_row hg hr)
    · rcases mem_spoilt hd with rfl | ⟨r, hr, rfl⟩
      · exact b2
      · exact Nat.le_trans (Rw.enc_depth (goodS_row hg hr)) (by decide)
    · rcases mem_spoilt hd with rfl | ⟨r, hr, rfl⟩
      · exact b4
      · exact enc_head r
  · refine ⟨ok_lst_of fun d hd => ?_, Nat.le_trans (depth_list (n := 50) fun d hd => ?_) (by decide), [], .inr ⟨rfl, rfl⟩, fun d hd => (nomatch hd)⟩
    · obtain ⟨r, hr, rfl⟩ := List.mem_map.mp hd
      exact ok_row r (goodS_row hg hr)
    · obtain ⟨r, hr, rfl⟩ := List.mem_map.mp hd
      exact Nat.le_trans (Rw.enc_depth (goodS_row hg hr)) (by decide)
  · refine ⟨b1, Nat.le_trans b2 (by decide), ?_⟩
    cases hT : isT d "tuple" with
    | false => exact ⟨[], .inr ⟨rfl, rfl⟩, fun d hd => (nomatch hd)⟩
    | true =>
      obtain ⟨ds, rfl⟩ := isT_tup hT
      exact ⟨ds, .inl rfl, fun r hr => List.all_eq_true.mp b5 r hr⟩
  · refine ⟨by decide +kernel, by decide +kernel, _, .inl rfl, fun r hr => ?_⟩
    have : (List.replicate 9 [PyData.tuple [.str "show", .int 1]]).flatten.all headOk = true := by decide +kernel
    exact List.all_eq_true.mp this r hr
theorem bads_no {src : Src} {bad : PyData} (hb : badOk bad = true) (k : Nat) : ∀ d ∈ badsD src bad k, d = bad ∨ isSource d = false := by
  obtain ⟨b1, b2, b3, b4, b5⟩ := badOk_iff hb
  intro d hd
  unfold badsD at hd
  simp only [List.mem_cons, List.not_mem_nil, or_false] at hd
  rcases hd with rfl | rfl | rfl | rfl
  · right
    show (decide (_ ≤ 8) && _) = false
    rw [Bool.and_eq_false_iff]
    right
    rw [List.all_eq_false]
    exact ⟨bad, by simp, by rw [b3]; simp⟩
  · exact .inr rfl
  · exact .inl rfl
  · right
    decide +kernel
theorem bads_at {src : Src} {bad : PyData} (hb : badOk bad = true) (k : Nat) (i : Nat) (h : i = 0 ∨ i = 1 ∨ i = 3) : ∃ d, (badsD src bad k)[i]? = some d ∧ isSource d = false := by
  obtain ⟨b1, b2, b3, b4, b5⟩ := badOk_iff hb
  rcases h with rfl | rfl | rfl
  · refine ⟨_, rfl, ?_⟩
    show (decide (_ ≤ 8) && _) = false
    rw [Bool.and_eq_false_iff]
    right
    rw [List.all_eq_false]
    exact ⟨bad, by simp, by rw [b3]; simp⟩
  · exact ⟨_, rfl, rfl⟩
  · exact ⟨_, rfl, by decide +kernel⟩
end LC

namespace LC
open PySem PySem.Spec PyProof.Rows L2 Evl
/-! ### methods -/
def tMet (C : Addr) (m : Str) (sp : Sp) (E : L2.St → XK) (ta : TE) (t : TA) : TE := fun σ H Q => ta σ H fun x H1 => ∃ a dx fs, x = .ref a ∧ H1 a = some (.ins C dx fs) ∧ fs.lookup m = none ∧ t σ H1 fun vs H2 => sp (.ref a :: vs) H2 Q (E σ)
/-- the class at C has a method m that keeps sp -/
def HasM (P : Program) (w : World) (K : Frag) (mg : Str → Option Value) (base : Heap) (CX : CXT) (k : Nat) (C : Addr) (m : Str) (ps : List Str) (sp : Sp) : Prop :=
  ∃ f fd, FnOk P w K mg base CX k f fd ps sp ∧ Binds K fd ps [] ∧ Meth K C m f
/-- the class at C, by the module's name x, is made by an __init__ that keeps sp -/
def HasI (P : Program) (w : World) (K : Frag) (mg : Str → Option Value) (base : Heap) (CX : CXT) (k : Nat) (C : Addr) (x : Str) (ps : List Str) (sp : Sp) : Prop :=
  ∃ f fd, FnOk P w K mg base CX k f fd ps sp ∧ Binds K fd ps [] ∧ Mk K C f ∧ mg x = some (.ref C)
section
variable {X : Cx} {CX : CXT} {k j : Nat} {C : Addr} {x m : Str} {ps : List Str} {sp : Sp} {E : L2.St → XK} {p pos apos : Pos} {e o : Expr} {es : List Expr} {ta : TE} {t : TA}
theorem passA {E : XK} (h : Passes CX X E) : ∀ σ : L2.St, PassesAt CX X σ ((fun _ => E) σ) := fun σ pins H s e s' I c => h pins σ H s e s' I c
theorem pe_hm {pl : Sem Bool} (he : PE X o ta) (c : Cls X.K C) (F : HasM X.prog X.w X.K X.mg X.base CX k C m ps sp) (hr : Room j X.A) (hk : k ≤ j) (hx : ∀ σ, PassesAt CX X σ (E σ)) (ha : PA X (e :: es) t)
    (hst : starEach (e :: es) X.env = (false, eval e X.env) :: starEach es X.env := by rfl) (hpl : (backTo pos (starEach es X.env)).any (·.1) = false := by rfl)
    (ht : eval (.Call (.Attribute o m apos) (e :: es) [] pos) X.env = (do
      let ov ← eval o X.env
      standAt apos.atName
      let (f, first) ← holding [ov] (getMethod ov m pl)
      callWith pos f first (backTo pos (starEach (e :: es) X.env)) (backToKw pos (keywordEach [] X.env))) := by rfl) :
    PE X (.Call (.Attribute o m apos) (e :: es) [] pos) (tMet C m sp E ta t) := by
  obtain ⟨f, fd, G, b, hm⟩ := F
  refine ⟨fun pins s σ H Q I h => ?_⟩
  refine PySem.W.methodCall_KW (pl := pl) (thn (he.run pins s σ H _ I h) fun u s1 ⟨x, H1, I1, rx, a, dx, fs, ex, ea, l, q⟩ => ?_) ht
  subst ex
  obtain rfl : u = Value.ref a := rx
  refine getmeth_ok I1 ea c hm l ?_
  refine PySem.W.callWith_K (first := [.ref a]) (h₀ := X.base) I.ok.mod.kin hm.kp (thn (ha.run pos pins s1 σ H1 _ I1 q) fun us s2 ⟨vs, H2, I2, r, q2⟩ => ⟨I2.kIn, ?_⟩) hst hpl
  exact run_fnS (us := .ref a :: us) (vs := .ref a :: vs) G (hr.mono hk) b (hx σ) I2 (.cons rfl r) q2
theorem pe_hm0 {pl : Sem Bool} (he : PE X o ta) (c : Cls X.K C) (F : HasM X.prog X.w X.K X.mg X.base CX k C m ps sp) (hr : Room j X.A) (hk : k ≤ j) (hx : ∀ σ, PassesAt CX X σ (E σ))
    (ht : eval (.Call (.Attribute o m apos) [] [] pos) X.env = (do
      let ov ← eval o X.env
      standAt apos.atName
      let (f, first) ← holding [ov] (getMethod ov m pl)
      callWith pos f first (backTo pos (starEach [] X.env)) (backToKw pos (keywordEach [] X.env))) := by rfl) :
    PE X (.Call (.Attribute o m apos) [] [] pos) (tMet C m sp E ta tNil) := by
  obtain ⟨f, fd, G, b, hm⟩ := F
  refine ⟨fun pins s σ H Q I h => ?_⟩
  refine PySem.W.methodCall_KW (pl := pl) (thn (he.run pins s σ H _ I h) fun u s1 ⟨x, H1, I1, rx, a, dx, fs, ex, ea, l, q⟩ => ?_) ht
  subst ex
  obtain rfl : u = Value.ref a := rx
  refine getmeth_ok I1 ea c hm l ?_
  exact PySem.W.callWith_K0 (first := [.ref a]) I1.kIn hm.kp (run_fnS (us := [.ref a]) (vs := [.ref a]) G (hr.mono hk) b (hx σ) I1 (.cons rfl .nil) q)
theorem pe_mk {E : XK} (F : HasI X.prog X.w X.K X.mg X.base CX k C x ps sp) (hr : Room j X.A) (hk : k + 1 ≤ j) (hg : Gl X x) (hx : Passes CX X E) (ha : PA X (e :: es) t) (hdb : (x == ("__debug__" : Str)) = false := by decide)
    (he : starEach (e :: es) X.env = (false, eval e X.env) :: starEach es X.env := by rfl) (hpl : (backTo pos (starEach es X.env)).any (·.1) = false := by rfl) : PE X (.Call (.Name x p) (e :: es) [] pos) (tMake C sp [] E t) := by
  obtain ⟨f, fd, G, b, M, m⟩ := F
  exact pe_make M G (hr.mono hk) hg m b .nil hx ha hdb he hpl
theorem pe_mk0 {E : XK} (F : HasI X.prog X.w X.K X.mg X.base CX k C x ps sp) (hr : Room j X.A) (hk : k + 1 ≤ j) (hg : Gl X x) (hx : Passes CX X E) (hdb : (x == ("__debug__" : Str)) = false := by decide) : PE X (.Call (.Name x p) [] [] pos) (tMake C sp [] E tNil) := by
  obtain ⟨f, fd, G, b, M, m⟩ := F
  exact pe_make0 M G (hr.mono hk) hg m b .nil hx hdb
theorem kSetFld {K : Frag} {f : Str} {tv : TE} {value : Expr} {pos' : Pos} (h : X.K = K) (ha : PE X o ta) (hv : PE X value tv) (hs : swapsWith value (some (.Attribute o f pos')) pos.line X.env = pure false := by rfl) : PS X (.Assign [.Attribute o f pos'] value pos) (sFld K ta tv f) := h ▸ ps_fld ha hv hs
theorem kAugFld {K : Frag} {f : Str} {tv : TE} {value : Expr} {pos' : Pos} (h : X.K = K) (ha : PE X o ta) (hv : PE X value tv) : PS X (.AugAssign (.Attribute o f pos') .Add value pos) (sFldAug K ta tv rAdd f) := h ▸ ps_fldaug ha hv in_add
theorem kIndex {K : Frag} (h : X.K = K) : MtR X "list.index" (rIndex K) := h ▸ mt_index
theorem kFld {K : Frag} {f : Str} (h : X.K = K) (he : PE X e ta) (hb : attributeBase e f X.env (eval e X.env) = eval e X.env := by rfl) : PE X (.Attribute e f pos) (tFld K ta f) := h ▸ pe_fld he hb
end
section
variable {P : Program} {w : World} {K : Frag} {mg : Str → Option Value} {base : Heap} {q : Str} {st : Stmt} {f C : Addr} {fd : FuncData} {N ps : List Str} {k : Nat} {sp : Sp} {x m : Str}
theorem hasM_x (F : FnP K x q st f fd) (g : Meth K C m f) (b : Binds K fd ps []) (S : FnScope N ps (defScope st)) (len : ∀ vs H Q E, sp vs H Q E → vs.length = ps.length)
    (hbody : ∀ (cdv : Value) (A : Around) (outer : List Env) (s : Shared) (H : Hp) (vs : List V) (Q : VK) (E : XK), Room k (A.deeper (envOfC q (defScope st) s.heap.objs.size f cdv)) → sp vs H Q E →
      ∃ t, PSs (cxOf (L2.CX P w) P w K mg base N q (defScope st) f cdv A outer s H E) (defBody st) t ∧ t { nx := fun _ H' => Q .non H', rt := Q } (start N vs) H) : HasM P w K mg base (L2.CX P w) (k + 1) C m ps sp :=
  ⟨f, fd, F.ok S len hbody, b, g⟩
theorem hasM_p (F : FnP K x q st f fd) (g : Meth K C m f) (b : Binds K fd ps []) (S : FnScope N ps (defScope st)) (len : ∀ vs H Q E, sp vs H Q E → vs.length = ps.length)
    (hbody : ∀ (cdv : Value) (A : Around) (outer : List Env) (s : Shared) (H : Hp) (vs : List V) (Q : VK) (E : XK), Room k (A.deeper (envOfC q (defScope st) s.heap.objs.size f cdv)) → sp vs H Q E →
      ∃ t, PSs (cxOf CX0 P w K mg base N q (defScope st) f cdv A outer s H E).nox (defBody st) t ∧ t { nx := fun _ H' => Q .non H', rt := Q } (start N vs) H) : HasM P w K mg base CX0 (k + 1) C m ps sp :=
  ⟨f, fd, F.ok S len (fun cdv A outer s H vs Q E hr h => by
    obtain ⟨t, ht, r⟩ := hbody cdv A outer s H vs Q E hr h
    exact ⟨t, PSs.nox ht, r⟩), b, g⟩
theorem hasI_p (F : FnP K "__init__" q st f fd) (M : Mk K C f) (g : mg x = some (.ref C)) (b : Binds K fd ps []) (S : FnScope N ps (defScope st)) (len : ∀ vs H Q E, sp vs H Q E → vs.length = ps.length)
    (hbody : ∀ (cdv : Value) (A : Around) (outer : List Env) (s : Shared) (H : Hp) (vs : List V) (Q : VK) (E : XK), Room k (A.deeper (envOfC q (defScope st) s.heap.objs.size f cdv)) → sp vs H Q E →
      ∃ t, PSs (cxOf CX0 P w K mg base N q (defScope st) f cdv A outer s H E).nox (defBody st) t ∧ t { nx := fun _ H' => Q .non H', rt := Q } (start N vs) H) : HasI P w K mg base CX0 (k + 1) C x ps sp :=
  ⟨f, fd, F.ok S len (fun cdv A outer s H vs Q E hr h => by
    obtain ⟨t, ht, r⟩ := hbody cdv A outer s H vs Q E hr h
    exact ⟨t, PSs.nox ht, r⟩), b, M, g⟩
end
/-! ### a notebook's state -/
structure RecS where
  lines : Src
  asked : List (Str × Option Int)
  shown : List Int
  sets : List (Str × Int)
  why : Option (Str × Option Str)
structure CellS where
  src : Src
  count : Nat
  struck : Bool
  recd : Option RecS
structure NbS where
  row : List Nat
  cell : Nat → CellS
  after : Nat
def encO : Option Int → PyData
  | none => .none
  | some i => .int i
def encN : Option Str → PyData
  | none => .none
  | some x => .str x
def encAsk (p : Str × Option Int) : PyData := .tuple [.str p.1, encO p.2]
def encWhy : Option (Str × Option Str) → PyData
  | none => .none
  | some (w, x) => .tuple [.str w, encN x]
structure NbC where
  N : Addr
  C : Addr
  R : Addr
def RecAt (K : Frag) (T : NbC) (B : Hp) (v : V) : Option RecS → Prop
  | none => v = .non
  | some r => ∃ p dx lv av sv dv wv, v = .ref p ∧ B p = some (.ins T.R dx [("lines", lv), ("asked", av), ("shown", sv), ("sets", .ref dv), ("why", wv)]) ∧ Dt K B lv (encS r.lines) ∧ Dt K B av (.list (r.asked.map encAsk)) ∧
      Dt K B sv (.list (r.shown.map PyData.int)) ∧ B dv = some (.dK (r.sets.map fun q => ((Sum.inr q.1 : Key), V.int q.2))) ∧ Dt K B wv (encWhy r.why)
def CellAt (K : Frag) (T : NbC) (B H : Hp) (p : Addr) (c : CellS) : Prop := ∃ dx lv rv, H p = some (.ins T.C dx [("lines", lv), ("count", .int (c.count : Int)), ("struck", .bl c.struck), ("record", rv)]) ∧ Dt K B lv (encS c.src) ∧ RecAt K T B rv c.recd
structure NbL (K : Frag) (T : NbC) (M : Addr → Prop) (B H : Hp) (nb : Addr) (st : NbS) (dn c r : Addr) (kvs : List (Key × V)) (ad : Nat → Addr) : Prop where
  x : Ex B H
  m : ∀ a, M a → B a = none ∧ H a ≠ none
  hn : H nb = some (.ins T.N dn [("cells", .ref c), ("row", .ref r), ("after", .int (st.after : Int))])
  hc : H c = some (.dK kvs)
  hr : H r = some (.lst (st.row.map fun n : Nat => V.int (n : Int)))
  mn : M nb
  mc : M c
  mr : M r
  kin : ∀ n ∈ st.row, valV kvs (.inl (n : Int)) = some (.ref (ad n))
  kout : ∀ i : Int, (∀ n ∈ st.row, (n : Int) ≠ i) → valV kvs (.inl i) = none
  kl : kvs.length ≤ st.after
  mad : ∀ n ∈ st.row, M (ad n)
  cells : ∀ n ∈ st.row, CellAt K T B H (ad n) (st.cell n)
  inj : ∀ n ∈ st.row, ∀ m ∈ st.row, ad n = ad m → n = m
/-- what is so of every state -/
structure NbG (st : NbS) : Prop where
  good : ∀ n ∈ st.row, goodS (st.cell n).src = true
  lt : ∀ n ∈ st.row, n < st.after
  nd : st.row.Nodup
  len : st.row.length ≤ 30
  few : st.after ≤ 5000
  cnt : ∀ n ∈ st.row, (st.cell n).count ≤ 5000
def NB (K : Frag) (T : NbC) (M : Addr → Prop) (B H : Hp) (nb : Addr) (st : NbS) : Prop := ∃ dn c r kvs ad, NbL K T M B H nb st dn c r kvs ad
/-- what may change: M; new things -/
structure Fr (M M' : Addr → Prop) (B H H' B' : Hp) : Prop where
  fr : ∀ a o, H a = some o → ¬ M a → H' a = some o
  xd : Ex B B'
  d2 : Ex B' H'
  nw : ∀ a, B a = none → H a ≠ none → B' a = none
  mm : ∀ a, M' a → M a ∨ H a = none
  sub : ∀ a, M a → M' a
  stay : ∀ a, H a ≠ none → H' a ≠ none
section
variable {K : Frag} {T : NbC} {M M' M'' : Addr → Prop} {B B' B'' H H' H'' : Hp} {nb : Addr} {st : NbS}
theorem RecAt.mono (e : Ex B B') {v : V} : ∀ {r : Option RecS}, RecAt K T B v r → RecAt K T B' v r
  | none, h => h
  | some r, ⟨p, dx, lv, av, sv, dv, wv, h1, h2, h3, h4, h5, h6, h7⟩ => ⟨p, dx, lv, av, sv, dv, wv, h1, e _ _ h2, dp_ex e _ _ h3, dp_ex e _ _ h4, dp_ex e _ _ h5, e _ _ h6, dp_ex e _ _ h7⟩
theorem CellAt.mono (e : Ex B B') {p : Addr} {c : CellS} (h : CellAt K T B H p c) (hp : ∀ o, H p = some o → H' p = some o) : CellAt K T B' H' p c := by
  obtain ⟨dx, lv, rv, h1, h2, h3⟩ := h
  exact ⟨dx, lv, rv, hp _ h1, dp_ex e _ _ h2, h3.mono e⟩
theorem Fr.of (g : Gr B H H' B') : Fr M M B H H' B' := ⟨fun a o h _ => g.ex a o h, g.xd, g.d2, g.fr, fun a h => .inl h, fun a h => h, fun a h => ne_none g.ex h⟩
theorem Fr.trans (x : Fr M M' B H H' B') (y : Fr M' M'' B' H' H'' B'') : Fr M M'' B H H'' B'' := by
  refine ⟨fun a o h n => y.fr a o (x.fr a o h n) fun z => ?_, x.xd.trans y.xd, y.d2, fun a hb hh => y.nw a (x.nw a hb hh) (x.stay a hh), fun a h => ?_, fun a h => y.sub a (x.sub a h), fun a h => y.stay a (x.stay a h)⟩
  · rcases x.mm a z with z | z
    · exact n z
    · rw [h] at z
      cases z
  · rcases y.mm a h with z | z
    · exact x.mm a z
    · right
      cases q : H a with
      | none => rfl
      | some o => exact absurd z (x.stay a (by rw [q]; exact fun z => nomatch z))
/-- another notebook, apart from what changed -/
theorem NB.apart {N : Addr → Prop} (h : NB K T N B H nb st) (f : Fr M M' B H H' B') (hd : ∀ a, N a → ¬ M a) : NB K T N B' H' nb st := by
  obtain ⟨dn, c, r, kvs, ad, h⟩ := h
  have go : ∀ a o, N a → H a = some o → H' a = some o := fun a o n e => f.fr a o e (hd a n)
  exact ⟨dn, c, r, kvs, ad, f.d2, fun a n => ⟨f.nw a (h.m a n).1 (h.m a n).2, f.stay a (h.m a n).2⟩, go _ _ h.mn h.hn, go _ _ h.mc h.hc, go _ _ h.mr h.hr, h.mn, h.mc, h.mr, h.kin, h.kout, h.kl, h.mad, fun n hn => (h.cells n hn).mono f.xd fun o => go _ _ (h.mad n hn), h.inj⟩
theorem NB.gr (h : NB K T M B H nb st) (g : Gr B H H' B') : NB K T M B' H' nb st := h.apart (M := fun _ => False) (M' := fun _ => False) (Fr.of g) fun _ _ z => z
theorem NB.ex (h : NB K T M B H nb st) (e : Ex H H') : NB K T M B H' nb st := h.gr (Gr.base (by obtain ⟨_, _, _, _, _, h⟩ := h; exact h.x) e)
theorem NB.x (h : NB K T M B H nb st) : Ex B H := by obtain ⟨_, _, _, _, _, h⟩ := h; exact h.x
end
/-- a promise about a notebook: R tells what comes of it, or which class is raised -/
def spNb (K : Frag) (T : NbC) (R : NbS → List PyData → (PyData ⊕ Addr) → NbS → Prop) : Sp := fun vs H Q E => ∃ M B nb st ws ds o st', vs = .ref nb :: ws ∧ NB K T M B H nb st ∧ NbG st ∧ DtAll K B ws ds ∧ R st ds o st' ∧
  (∀ d, o = .inl d → ∀ v H' B' M', Fr M M' B H H' B' → NB K T M' B' H' nb st' → Dt K B' v d → Q v H') ∧ (∀ c, o = .inr c → ∀ H' B' M', Fr M M' B H H' B' → NB K T M' B' H' nb st' → E (.ref c) none H')
/-- the classes' facts -/
structure NbT (K : Frag) (T : NbC) : Prop where
  cN : Cls K T.N
  cC : Cls K T.C
  cR : Cls K T.R
  nN : ∀ {f : Str}, f ∈ (["cells", "row", "after"] : List Str) → NoAttr K T.N f
  nC : ∀ {f : Str}, f ∈ (["lines", "count", "struck", "record"] : List Str) → NoAttr K T.C f
  nR : ∀ {f : Str}, f ∈ (["lines", "asked", "shown", "sets", "why"] : List Str) → NoAttr K T.R f
end LC

namespace LC
open PySem PySem.Spec PyProof.Rows L2 Evl
/-! ### readings: attributes, dicts -/
section
variable {K : Frag} {σ : L2.St} {H : Hp} {ta td ty te tv : TE} {D : Ends} {a C dx : Addr} {fs : List (Str × V)} {f : Str} {v y : V} {kvs : List (Key × V)} {k : Key}
theorem ev_fld (h : Ev ta σ H (.ref a)) (ho : H a = some (.ins C dx fs)) (c : Cls K C) (n : NoAttr K C f) (l : fs.lookup f = some v) : Ev (tFld K ta f) σ H v := fun H1 e Q q => h H1 e _ fun H2 e2 => ⟨a, C, dx, fs, v, rfl, e2 _ _ (e _ _ ho), c, n, l, q H2 e2⟩
theorem ev_dget (hd : Ev td σ H (.ref a)) (hy : Ev ty σ H (kV k)) (ha : H a = some (.dK kvs)) (hv : valV kvs k = some v) : Ev (tDGet td ty) σ H v := fun H1 e Q q =>
  hd H1 e _ fun H2 e2 => hy H2 (e.trans e2) _ fun H3 e3 => ⟨a, v, rfl, hv ▸ DGet.k (k := k) (((e.trans e2).trans e3) _ _ ha), q H3 (e2.trans e3)⟩
theorem ev_din (hy : Ev ty σ H (kV k)) (hd : Ev td σ H (.ref a)) (ha : H a = some (.dK kvs)) : Ev (tDIn ty td) σ H (.bl (valV kvs k).isSome) := fun H1 e Q q =>
  hy H1 e _ fun H2 e2 => hd H2 (e.trans e2) _ fun H3 e3 => ⟨a, _, rfl, DGet.k (k := k) (((e.trans e2).trans e3) _ _ ha), q H3 (e2.trans e3)⟩
theorem ev_dnotin (hy : Ev ty σ H (kV k)) (hd : Ev td σ H (.ref a)) (ha : H a = some (.dK kvs)) : Ev (tDNotIn ty td) σ H (.bl (!(valV kvs k).isSome)) := fun H1 e Q q =>
  hy H1 e _ fun H2 e2 => hd H2 (e.trans e2) _ fun H3 e3 => ⟨a, _, rfl, DGet.k (k := k) (((e.trans e2).trans e3) _ _ ha), q H3 (e2.trans e3)⟩
theorem s_fld (hv : Ev tv σ H y) (ha : Ev ta σ H (.ref a)) (ho : H a = some (.ins C dx fs)) (c : Cls K C) (n : NoAttr K C f) (hl : fs.length < 1000) (kk : ∀ H2, Ex H H2 → D.nx σ (upd H2 a (.ins C dx (putF f y fs)))) : sFld K ta tv f D σ H :=
  hv H (Ex.refl H) _ fun H1 e1 => ha H1 e1 _ fun H2 e2 => ⟨a, C, dx, fs, rfl, e2 _ _ (e1 _ _ ho), c, n, hl, kk H2 (e1.trans e2)⟩
theorem s_fldaug {i j : Int} (ha : Ev ta σ H (.ref a)) (ho : H a = some (.ins C dx fs)) (c : Cls K C) (n : NoAttr K C f) (l : fs.lookup f = some (.int i)) (hv : Ev tv σ H (.int j)) (hl : fs.length < 1000) (kk : ∀ H2, Ex H H2 → D.nx σ (upd H2 a (.ins C dx (putF f (.int (i + j)) fs)))) : sFldAug K ta tv rAdd f D σ H :=
  ha H (Ex.refl H) _ fun H1 e1 => ⟨a, C, dx, fs, .int i, rfl, e1 _ _ ho, c, n, l, hv H1 e1 _ fun H2 e2 => ⟨i, j, rfl, rfl, dx, fs, e2 _ _ (e1 _ _ ho), hl, kk H2 (e1.trans e2)⟩⟩
end
section
variable {K : Frag} {T : NbC} {M : Addr → Prop} {B H : Hp} {nb dn c r : Addr} {st : NbS} {kvs : List (Key × V)} {ad : Nat → Addr} {σ : L2.St} {ta ty te : TE} {n : Nat}
theorem NbL.cellsE (L : NbL K T M B H nb st dn c r kvs ad) (U : NbT K T) (h : Ev ta σ H (.ref nb)) : Ev (tFld K ta "cells") σ H (.ref c) := ev_fld h L.hn U.cN (U.nN (by decide)) rfl
theorem NbL.rowE (L : NbL K T M B H nb st dn c r kvs ad) (U : NbT K T) (h : Ev ta σ H (.ref nb)) : Ev (tFld K ta "row") σ H (.ref r) := ev_fld h L.hn U.cN (U.nN (by decide)) rfl
theorem NbL.afterE (L : NbL K T M B H nb st dn c r kvs ad) (U : NbT K T) (h : Ev ta σ H (.ref nb)) : Ev (tFld K ta "after") σ H (.int (st.after : Int)) := ev_fld h L.hn U.cN (U.nN (by decide)) rfl
theorem NbL.atE (L : NbL K T M B H nb st dn c r kvs ad) (U : NbT K T) (h : Ev ta σ H (.ref nb)) (hy : Ev ty σ H (.int (n : Int))) (hn : n ∈ st.row) : Ev (tDGet (tFld K ta "cells") ty) σ H (.ref (ad n)) := ev_dget (k := .inl (n : Int)) (L.cellsE U h) hy L.hc (L.kin n hn)
theorem NbL.countE (L : NbL K T M B H nb st dn c r kvs ad) (U : NbT K T) (hn : n ∈ st.row) (h : Ev te σ H (.ref (ad n))) : Ev (tFld K te "count") σ H (.int ((st.cell n).count : Int)) := by
  obtain ⟨dx, lv, rv, h1, h2, h3⟩ := L.cells n hn
  exact ev_fld h h1 U.cC (U.nC (by decide)) rfl
theorem NbL.struckE (L : NbL K T M B H nb st dn c r kvs ad) (U : NbT K T) (hn : n ∈ st.row) (h : Ev te σ H (.ref (ad n))) : Ev (tFld K te "struck") σ H (.bl (st.cell n).struck) := by
  obtain ⟨dx, lv, rv, h1, h2, h3⟩ := L.cells n hn
  exact ev_fld h h1 U.cC (U.nC (by decide)) rfl
theorem NbL.linesE (L : NbL K T M B H nb st dn c r kvs ad) (U : NbT K T) (hn : n ∈ st.row) (h : Ev te σ H (.ref (ad n))) : ∃ lv, Ev (tFld K te "lines") σ H lv ∧ Dt K B lv (encS (st.cell n).src) := by
  obtain ⟨dx, lv, rv, h1, h2, h3⟩ := L.cells n hn
  exact ⟨lv, ev_fld h h1 U.cC (U.nC (by decide)) rfl, h2⟩
theorem NbL.recE (L : NbL K T M B H nb st dn c r kvs ad) (U : NbT K T) (hn : n ∈ st.row) (h : Ev te σ H (.ref (ad n))) : ∃ rv, Ev (tFld K te "record") σ H rv ∧ RecAt K T B rv (st.cell n).recd := by
  obtain ⟨dx, lv, rv, h1, h2, h3⟩ := L.cells n hn
  exact ⟨rv, ev_fld h h1 U.cC (U.nC (by decide)) rfl, h3⟩
theorem NbL.dtRow (L : NbL K T M B H nb st dn c r kvs ad) : Dt K H (.ref r) (.list (st.row.map fun n : Nat => PyData.int (n : Int))) := by
  refine .lst L.hr ?_
  have := dt_ints (K := K) (H := H) (st.row.map fun n : Nat => (n : Int))
  rw [List.map_map, List.map_map] at this
  exact this
theorem NbL.ex {H' : Hp} (L : NbL K T M B H nb st dn c r kvs ad) (e : Ex H H') : NbL K T M B H' nb st dn c r kvs ad :=
  ⟨L.x.trans e, fun a h => ⟨(L.m a h).1, ne_none e (L.m a h).2⟩, e _ _ L.hn, e _ _ L.hc, e _ _ L.hr, L.mn, L.mc, L.mr, L.kin, L.kout, L.kl, L.mad, fun n hn => (L.cells n hn).mono (Ex.refl _) fun o => e _ _, L.inj⟩
theorem NbL.toNB (L : NbL K T M B H nb st dn c r kvs ad) : NB K T M B H nb st := ⟨dn, c, r, kvs, ad, L⟩
theorem NbL.gr {B' H' : Hp} (L : NbL K T M B H nb st dn c r kvs ad) (g : Gr B H H' B') : NbL K T M B' H' nb st dn c r kvs ad :=
  ⟨g.d2, fun a h => ⟨g.fr a (L.m a h).1 (L.m a h).2, ne_none g.ex (L.m a h).2⟩, g.ex _ _ L.hn, g.ex _ _ L.hc, g.ex _ _ L.hr, L.mn, L.mc, L.mr, L.kin, L.kout, L.kl, L.mad, fun n hn => (L.cells n hn).mono g.xd fun o => g.ex _ _, L.inj⟩
/-- a write within M -/
theorem fr_upd {a : Addr} {o : HO} (x : Ex B H) (hm : M a) (hb : B a = none) (hh : H a ≠ none) : Fr M M B H (upd H a o) B := by
  refine ⟨fun b u h n => ?_, Ex.refl B, ex_upd x hb, fun b h _ => h, fun b h => .inl h, fun b h => h, fun b h => ?_⟩
  · rw [upd_ne (fun z : b = a => n (by rw [z]; exact hm))]
    exact h
  · by_cases z : b = a
    · rw [z, upd_same]
      exact fun z => nomatch z
    · rw [upd_ne z]
      exact h
end
/-! ### which data are cells -/
def isCellD (st : NbS) : PyData → Bool
  | .int i => st.row.any fun n => decide ((n : Int) = i)
  | _ => false
theorem isCell_iff {st : NbS} {d : PyData} : isCellD st d = true ↔ ∃ n ∈ st.row, d = .int (n : Int) := by
  cases d with
  | int i =>
    unfold isCellD
    rw [List.any_eq_true]
    constructor
    · rintro ⟨n, h1, h2⟩
      exact ⟨n, h1, by rw [of_decide_eq_true h2]⟩
    · rintro ⟨n, h1, h2⟩
      exact ⟨n, h1, decide_eq_true (PyData.int.inj h2).symm⟩
  | _ =>
    constructor
    · intro h; cases h
    · rintro ⟨n, _, h⟩; cases h
theorem NbL.isSome {K : Frag} {T : NbC} {M : Addr → Prop} {B H : Hp} {nb dn c r : Addr} {st : NbS} {kvs : List (Key × V)} {ad : Nat → Addr} (L : NbL K T M B H nb st dn c r kvs ad) (i : Int) : (valV kvs (.inl i)).isSome = isCellD st (.int i) := by
  cases h : isCellD st (.int i) with
  | true =>
    obtain ⟨n, hn, e⟩ := isCell_iff.mp h
    cases e
    rw [L.kin n hn]
    rfl
  | false =>
    rw [L.kout i fun n hn e => ?_]
    · rfl
    · have := isCell_iff.mpr ⟨n, hn, by rw [e]⟩
      rw [h] at this
      cases this
theorem cell_within {st : NbS} (G : NbG st) {d : PyData} (h : isCellD st d = true) : isWithin d 0 (st.after : Int) = true := by
  obtain ⟨n, hn, rfl⟩ := isCell_iff.mp h
  have := G.lt n hn
  unfold isWithin
  rw [Bool.and_eq_true]
  exact ⟨decide_eq_true (by omega), decide_eq_true (by omega)⟩
/-! ### promises -/
def spNbI (K : Frag) (T : NbC) : Sp := fun vs H Q _ => ∃ x dx, vs = [.ref x] ∧ H x = some (.ins T.N dx []) ∧ ∀ c r H', H c = none → H r = none → c ≠ r → H' x = some (.ins T.N dx [("cells", .ref c), ("row", .ref r), ("after", .int 0)]) → H' c = some (.dK []) → H' r = some (.lst []) → (∀ a o, a ≠ x → H a = some o → H' a = some o) → Q .non H'
def spCellI (K : Frag) (T : NbC) : Sp := fun vs H Q _ => ∃ x dx v, vs = [.ref x, v] ∧ H x = some (.ins T.C dx []) ∧ ∀ H', H' x = some (.ins T.C dx [("lines", v), ("count", .int 0), ("struck", .bl false), ("record", .non)]) → (∀ a o, a ≠ x → H a = some o → H' a = some o) → Q .non H'
/-- a promise of one that only looks -/
def spNq (K : Frag) (T : NbC) (R : NbS → List PyData → (PyData ⊕ Addr) → Prop) : Sp := fun vs H Q E => ∃ M B nb st ws ds o, vs = .ref nb :: ws ∧ NB K T M B H nb st ∧ NbG st ∧ DtAll K B ws ds ∧ R st ds o ∧ (∀ d, o = .inl d → Rt K B H d Q) ∧ (∀ c, o = .inr c → ∀ H', Ex H H' → E (.ref c) none H')
def R_look_cell (cB : Addr) (st : NbS) (ds : List PyData) (o : PyData ⊕ Addr) : Prop := ∃ d, ds = [d] ∧ o = if isCellD st d then .inl .none else .inr cB
def R_look_place (cB : Addr) (st : NbS) (ds : List PyData) (o : PyData ⊕ Addr) : Prop := ∃ d i, ds = [d, .int i] ∧ o = if isWithin d 0 i then .inl .none else .inr cB
/-! ### readings with a part for the data -/
def EvB (K : Frag) (te : TE) (σ : L2.St) (B H : Hp) (d : PyData) : Prop := ∀ H1, Ex H H1 → ∀ Q : VK, (∀ v H2 Hd, Gr B H1 H2 Hd → Dt K Hd v d → Q v H2) → te σ H1 Q
def EvBs (K : Frag) (ta : TA) (σ : L2.St) (B H : Hp) (ds : List PyData) : Prop := ∀ H1, Ex H H1 → ∀ Q : List V → Hp → Prop, (∀ vs H2 Hd, Gr B H1 H2 Hd → DtAll K Hd vs ds → Q vs H2) → ta σ H1 Q
section
variable {K : Frag} {σ : L2.St} {B H H' : Hp} {te ta tb : TE} {d e : PyData} {targs : TA} {ds : List PyData} {D : Ends}
theorem EvD.toB (h : EvD K te σ B d) (x : Ex B H) : EvB K te σ B H d := fun H1 e Q q => h H1 (x.trans e) Q q
theorem EvB.toD (h : EvB K te σ H H d) : EvD K te σ H d := h
theorem EvB.ex (h : EvB K te σ B H d) (x : Ex H H') : EvB K te σ B H' d := fun H1 e Q q => h H1 (x.trans e) Q q
theorem evb_v {v : V} (x : Ex B H) (h : Ev te σ H v) (hd : Dt K B v d) : EvB K te σ B H d := fun H1 e Q q => h H1 e Q fun H2 e2 => q v H2 B (Gr.base (x.trans e) e2) hd
theorem evb_i {i : Int} (x : Ex B H) (h : Ev te σ H (.int i)) : EvB K te σ B H (.int i) := evb_v x h (.int i)
theorem evb_b {b : Bool} (x : Ex B H) (h : Ev te σ H (.bl b)) : EvB K te σ B H (.bool b) := evb_v x h (.bl b)
theorem evb_is {d' : PyData} (h : EvB K te σ B H d) (e : d = d') : EvB K te σ B H d' := e ▸ h
theorem evB_int {i : Int} (h : EvB K te σ B H (.int i)) : Ev te σ H (.int i) := fun H1 e Q q => h H1 e Q fun v H2 Hd g hd => by rw [dp_int hd]; exact q H2 g.ex
theorem evB_str {x : Str} (h : EvB K te σ B H (.str x)) : Ev te σ H (.str x) := fun H1 e Q q => h H1 e Q fun v H2 Hd g hd => by rw [dp_str hd]; exact q H2 g.ex
theorem evB_bl {b : Bool} (h : EvB K te σ B H (.bool b)) : Ev te σ H (.bl b) := fun H1 e Q q => h H1 e Q fun v H2 Hd g hd => by rw [dp_bool hd]; exact q H2 g.ex
theorem ebs_nil (x : Ex B H) : EvBs K tNil σ B H [] := fun H1 e _ q => q [] H1 B (Gr.base (x.trans e) (Ex.refl H1)) .nil
theorem ebs_cons {tr : TA} (h : EvB K te σ B H d) (hr : EvBs K tr σ B H ds) : EvBs K (tCons te tr) σ B H (d :: ds) := fun H1 e _ q =>
  h H1 e _ fun v H2 A g hd => hr H2 (e.trans g.ex) _ fun vs H3 C g2 hds => q (v :: vs) H3 _ (g.join g2) (.cons (dp_ex join_l _ _ hd) (dpAll_ex (join_r (g.d2.trans g2.ex) g2.d2) _ _ hds))
theorem evb_tup (h : EvBs K targs σ B H ds) (hl : ds.length ≤ 100000) : EvB K (tTup targs) σ B H (.tuple ds) := fun H1 e _ q =>
  h H1 e _ fun vs H2 Hd g hds => ⟨by rw [dpAll_len hds]; exact sz_of hl, fun p hp => q (.ref p) _ _ (g.new _ hp) (.tup (st_of upd_same) (dpAll_ex (Ex.new (fresh_back g.d2 hp)) _ _ hds))⟩
theorem evb_lst (h : EvBs K targs σ B H ds) (hl : ds.length ≤ 100000) : EvB K (tLst targs) σ B H (.list ds) := fun H1 e _ q =>
  h H1 e _ fun vs H2 Hd g hds => ⟨by rw [dpAll_len hds]; exact sz_of hl, fun p hp => q (.ref p) _ _ (g.new _ hp) (.lst upd_same (dpAll_ex (Ex.new (fresh_back g.d2 hp)) _ _ hds))⟩
theorem s_asgB {i : Nat} (h : EvB K te σ B H d) (k : ∀ v H1 Hd, Gr B H H1 Hd → Dt K Hd v d → D.nx (σ.set i (some v)) H1) : tAsg te (gName i) D σ H := h H (Ex.refl H) _ k
theorem s_retB (h : EvB K te σ B H d) (k : ∀ v H1 Hd, Gr B H H1 Hd → Dt K Hd v d → D.rt v H1) : tRet te D σ H := h H (Ex.refl H) _ k
/-- list(xs) of a list that may change -/
theorem evb_copy {a : Addr} {xs : List V} (x : Ex B H) (h : Ev te σ H (.ref a)) (ha : H a = some (.lst xs)) (hd : DtAll K B xs ds) : EvB K (tCB (rLstU K) (tCons te tNil)) σ B H (.list ds) := fun H1 e Q q =>
  h H1 e _ fun H2 e2 => ⟨a, xs, rfl, .inl (sq_of (e2 _ _ (e _ _ ha))), fun l hl => q _ _ _ ((Gr.base (x.trans e) e2).new _ hl) (.lst upd_same (dpAll_ex (Ex.new (fresh_back ((x.trans e).trans e2) hl)) _ _ hd))⟩
end
section
variable {K : Frag} {T : NbC} {M : Addr → Prop} {B H : Hp} {nb : Addr} {st st' : NbS} {σ : L2.St} {ta : TE} {targs : TA} {ds : List PyData} {d : PyData} {o : PyData ⊕ Addr} {E : L2.St → XK} {m : Str} {D : Ends} {Q : VK}
/-- a method's name is no attribute of a notebook -/
def NoF (m : Str) : Prop := ∀ a b c : V, (([("cells", a), ("row", b), ("after", c)] : List (Str × V)).lookup m) = none
theorem t_met {R : NbS → List PyData → (PyData ⊕ Addr) → NbS → Prop} (nf : NoF m) (hs : Ev ta σ H (.ref nb)) (hN : NB K T M B H nb st) (hG : NbG st) (ha : EvBs K targs σ B H ds) (hf : R st ds o st')
    (k1 : ∀ d, o = .inl d → ∀ v H' B' M', Fr M M' B H H' B' → NB K T M' B' H' nb st' → Dt K B' v d → Q v H') (k2 : ∀ c, o = .inr c → ∀ H' B' M', Fr M M' B H H' B' → NB K T M' B' H' nb st' → E σ (.ref c) none H') : tMet T.N m (spNb K T R) E ta targs σ H Q := by
  refine hs H (Ex.refl H) _ fun H1 e1 => ?_
  obtain ⟨dn, c, r, kvs, ad, L⟩ := hN
  refine ⟨nb, dn, _, rfl, e1 _ _ L.hn, nf _ _ _, ?_⟩
  refine ha H1 e1 _ fun vs H2 Hd g hds => ?_
  have g2 : Gr B H H2 Hd := g.after e1
  exact ⟨M, Hd, nb, st, vs, ds, o, st', rfl, (L.gr g2).toNB, hG, hds, hf, fun d e v H' B' M' f => k1 d e v H' B' M' ((Fr.of g2).trans f), fun c e H' B' M' f => k2 c e H' B' M' ((Fr.of g2).trans f)⟩
theorem t_q {R : NbS → List PyData → (PyData ⊕ Addr) → Prop} (nf : NoF m) (hs : Ev ta σ H (.ref nb)) (hN : NB K T M B H nb st) (hG : NbG st) (ha : EvBs K targs σ B H ds) (hf : R st ds o)
    (k1 : ∀ d, o = .inl d → Rt K B H d Q) (k2 : ∀ c, o = .inr c → ∀ H', Ex H H' → E σ (.ref c) none H') : tMet T.N m (spNq K T R) E ta targs σ H Q := by
  refine hs H (Ex.refl H) _ fun H1 e1 => ?_
  obtain ⟨dn, c, r, kvs, ad, L⟩ := hN
  refine ⟨nb, dn, _, rfl, e1 _ _ L.hn, nf _ _ _, ?_⟩
  refine ha H1 e1 _ fun vs H2 Hd g hds => ?_
  have g2 : Gr B H H2 Hd := g.after e1
  exact ⟨M, Hd, nb, st, vs, ds, o, rfl, (L.gr g2).toNB, hG, hds, hf, fun d e v H' B' f => k1 d e v H' B' (g2.seq f), fun c e H' e' => k2 c e H' (g2.ex.trans e')⟩
theorem evb_q {R : NbS → List PyData → (PyData ⊕ Addr) → Prop} (nf : NoF m) (hs : Ev ta σ H (.ref nb)) (hN : NB K T M B H nb st) (hG : NbG st) (ha : EvBs K targs σ B H ds) (hf : R st ds (.inl d)) : EvB K (tMet T.N m (spNq K T R) E ta targs) σ B H d := fun H1 e Q q =>
  t_q nf (fun H2 e2 => hs H2 (e.trans e2)) (hN.ex e) hG (fun H2 e2 => ha H2 (e.trans e2)) hf (fun d' e' => by cases e'; exact q) fun c e' => by cases e'
end
end LC

namespace LC
open PySem PySem.Spec PyProof.Rows L2 Evl
section
variable {K : Frag} {T : NbC} {M : Addr → Prop} {B H : Hp} {nb : Addr} {st st' : NbS} {σ : L2.St} {ta te : TE} {targs : TA} {ds : List PyData} {d : PyData} {o : PyData ⊕ Addr} {E : L2.St → XK} {m : Str} {D : Ends} {Q : VK} {i : Nat}
theorem s_q {R : NbS → List PyData → (PyData ⊕ Addr) → Prop} (nf : NoF m) (hs : Ev ta σ H (.ref nb)) (hN : NB K T M B H nb st) (hG : NbG st) (ha : EvBs K targs σ B H ds) (hf : R st ds o)
    (k1 : ∀ d, o = .inl d → ∀ H', Ex H H' → D.nx σ H') (k2 : ∀ c, o = .inr c → ∀ H', Ex H H' → E σ (.ref c) none H') : tDrop (tMet T.N m (spNq K T R) E ta targs) D σ H := t_q (Q := fun _ H' => D.nx σ H') nf hs hN hG ha hf (fun d e v H' B' g _ => k1 d e H' g.ex) k2
theorem s_metD {R : NbS → List PyData → (PyData ⊕ Addr) → NbS → Prop} (nf : NoF m) (hs : Ev ta σ H (.ref nb)) (hN : NB K T M B H nb st) (hG : NbG st) (ha : EvBs K targs σ B H ds) (hf : R st ds o st')
    (k1 : ∀ d, o = .inl d → ∀ v H' B' M', Fr M M' B H H' B' → NB K T M' B' H' nb st' → Dt K B' v d → D.nx σ H') (k2 : ∀ c, o = .inr c → ∀ H' B' M', Fr M M' B H H' B' → NB K T M' B' H' nb st' → E σ (.ref c) none H') : tDrop (tMet T.N m (spNb K T R) E ta targs) D σ H := t_met (Q := fun _ H' => D.nx σ H') nf hs hN hG ha hf k1 k2
theorem s_metA {R : NbS → List PyData → (PyData ⊕ Addr) → NbS → Prop} (nf : NoF m) (hs : Ev ta σ H (.ref nb)) (hN : NB K T M B H nb st) (hG : NbG st) (ha : EvBs K targs σ B H ds) (hf : R st ds o st')
    (k1 : ∀ d, o = .inl d → ∀ v H' B' M', Fr M M' B H H' B' → NB K T M' B' H' nb st' → Dt K B' v d → D.nx (σ.set i (some v)) H') (k2 : ∀ c, o = .inr c → ∀ H' B' M', Fr M M' B H H' B' → NB K T M' B' H' nb st' → E σ (.ref c) none H') : tAsg (tMet T.N m (spNb K T R) E ta targs) (gName i) D σ H := t_met (Q := fun v H' => D.nx (σ.set i (some v)) H') nf hs hN hG ha hf k1 k2
end
section
variable {K : Frag} {T : NbC} {M : Addr → Prop} {B H H' : Hp} {nb dn c r : Addr} {st : NbS} {kvs : List (Key × V)} {ad : Nat → Addr} {σ : L2.St} {ta ty te : TE} {n : Nat}
theorem NbL.lenE (L : NbL K T M B H nb st dn c r kvs ad) (U : NbT K T) (h : Ev ta σ H (.ref nb)) : Ev (tCB (rLenU K) (tCons (tFld K ta "row") tNil)) σ H (.int (st.row.length : Int)) :=
  ev_is (ev_lenL (K := K) (evd_of (L.rowE U h) L.dtRow)) (by rw [List.length_map])
theorem NbL.ne_cr (L : NbL K T M B H nb st dn c r kvs ad) : c ≠ r := ne_of L.hc L.hr fun z => by cases z
theorem NbL.ne_nc (L : NbL K T M B H nb st dn c r kvs ad) : nb ≠ c := ne_of L.hn L.hc fun z => by cases z
theorem NbL.ne_nr (L : NbL K T M B H nb st dn c r kvs ad) : nb ≠ r := ne_of L.hn L.hr fun z => by cases z
theorem NbL.ne_na (L : NbL K T M B H nb st dn c r kvs ad) (hn : n ∈ st.row) : ad n ≠ nb := by
  obtain ⟨dx, lv, rv, h1, _⟩ := L.cells n hn
  refine ne_of h1 L.hn fun z => ?_
  injection z with _ _ z
  have z := congrArg List.length z
  simp at z
theorem NbL.ne_ca (L : NbL K T M B H nb st dn c r kvs ad) (hn : n ∈ st.row) : ad n ≠ c := by
  obtain ⟨dx, lv, rv, h1, _⟩ := L.cells n hn
  exact ne_of h1 L.hc fun z => by cases z
theorem NbL.ne_ra (L : NbL K T M B H nb st dn c r kvs ad) (hn : n ∈ st.row) : ad n ≠ r := by
  obtain ⟨dx, lv, rv, h1, _⟩ := L.cells n hn
  exact ne_of h1 L.hr fun z => by cases z
end
abbrev rIns : V → List V → Hp → VK → Prop := fun x vs H Q => ∃ (l : Addr) (xs : List V) (i : Int) (y : V), x = .ref l ∧ vs = [.int i, y] ∧ H l = some (.lst xs) ∧ xs.length < sizeLine ∧ 0 ≤ i ∧ i < 2 ^ 63 ∧ Q .non (upd H l (.lst (xs.take i.toNat ++ [y] ++ xs.drop i.toNat)))
theorem kIns {X : Cx} : MtR X "list.insert" rIns := mt_insert
theorem s_ins {K : Frag} {σ : L2.St} {H : Hp} {ta t1 t2 : TE} {D : Ends} {l : Addr} {xs : List V} {i : Int} {y : V} (hl : H l = some (.lst xs)) (ha : Ev ta σ H (.ref l)) (h1 : Ev t1 σ H (.int i)) (h2 : Ev t2 σ H y) (hz : xs.length < 100000) (h0 : 0 ≤ i) (h3 : i < 2 ^ 63)
    (k : ∀ H1, Ex H H1 → D.nx σ (upd H1 l (.lst (xs.take i.toNat ++ [y] ++ xs.drop i.toNat)))) : tDrop (tBM K "list" rIns ta (tCons t1 (tCons t2 tNil))) D σ H :=
  ha H (Ex.refl H) _ fun H1 e1 => ⟨Or.inl ⟨rfl, xs, sq_of (e1 l _ hl)⟩, h1 H1 e1 _ fun H2 e2 => h2 H2 (e1.trans e2) _ fun H3 e3 => ⟨l, xs, i, y, rfl, rfl, ((e1.trans e2).trans e3) _ _ hl, sz_lt hz, h0, h3, k H3 ((e1.trans e2).trans e3)⟩⟩
/-! ### put -/
def newCell (src : Src) : CellS := ⟨src, 0, false, none⟩
def putS (st : NbS) (i : Nat) (src : Src) : NbS := ⟨st.row.take i ++ [st.after] ++ st.row.drop i, fun n => if n = st.after then newCell src else st.cell n, st.after + 1⟩
def R_put (cP cS cF : Addr) (st : NbS) (ds : List PyData) (o : PyData ⊕ Addr) (st' : NbS) : Prop := ∃ d s, ds = [d, s] ∧ okD s = true ∧
  ((isWithin d 0 (st.row.length : Int) = false ∧ o = .inr cP ∧ st' = st) ∨ (isWithin d 0 (st.row.length : Int) = true ∧ isSource s = false ∧ o = .inr cS ∧ st' = st) ∨
   (isWithin d 0 (st.row.length : Int) = true ∧ isSource s = true ∧ st.row.length = 30 ∧ o = .inr cF ∧ st' = st) ∨
   (∃ (i : Nat) (src : Src), d = .int (i : Int) ∧ i ≤ st.row.length ∧ s = encS src ∧ goodS src = true ∧ st.row.length < 30 ∧ o = .inl (.int (st.after : Int)) ∧ st' = putS st i src))
theorem mem_putS {st : NbS} {i n : Nat} {src : Src} : n ∈ (putS st i src).row ↔ n = st.after ∨ n ∈ st.row := by
  unfold putS
  simp only [List.mem_append, List.mem_singleton]
  constructor
  · rintro ((h | h) | h)
    · exact .inr (List.mem_of_mem_take h)
    · exact .inl h
    · exact .inr (List.mem_of_mem_drop h)
  · rintro (h | h)
    · exact .inl (.inr h)
    · rw [← List.take_append_drop i st.row] at h
      rcases List.mem_append.mp h with h | h
      · exact .inl (.inl h)
      · exact .inr h
theorem NbG.put {st : NbS} (G : NbG st) {i : Nat} {src : Src} (hg : goodS src = true) (hl : st.row.length < 30) (hf : st.after < 5000) : NbG (putS st i src) := by
  have hna : st.after ∉ st.row := fun h => by have := G.lt _ h; omega
  refine ⟨fun n hn => ?_, fun n hn => ?_, ?_, ?_, by show st.after + 1 ≤ 5000; omega, fun n hn => ?_⟩
  · show goodS (if n = st.after then newCell src else st.cell n).src = true
    rcases mem_putS.mp hn with h | h
    · rw [if_pos h]; exact hg
    · rw [if_neg (fun z : n = st.after => hna (by rw [← z]; exact h))]; exact G.good n h
  · show n < st.after + 1
    rcases mem_putS.mp hn with h | h
    · omega
    · have := G.lt n h; omega
  · show (st.row.take i ++ [st.after] ++ st.row.drop i).Nodup
    have hnd := G.nd
    rw [← List.take_append_drop i st.row] at hnd
    rw [List.append_assoc, List.nodup_append] at *
    refine ⟨hnd.1, ?_, fun a ha b hb => ?_⟩
    · rw [List.nodup_append]
      refine ⟨by simp, hnd.2.1, fun a ha b hb => ?_⟩
      rw [List.mem_singleton] at ha
      rw [ha]
      exact fun z => hna (List.mem_of_mem_drop (z ▸ hb))
    · rcases List.mem_append.mp hb with hb | hb
      · rw [List.mem_singleton] at hb
        rw [hb]
        exact fun z => hna (List.mem_of_mem_take (z ▸ ha))
      · exact hnd.2.2 a ha b hb
  · show (st.row.take i ++ [st.after] ++ st.row.drop i).length ≤ 30
    rw [List.length_append, List.length_append, List.length_take, List.length_drop, List.length_singleton]
    omega
  · show (if n = st.after then newCell src else st.cell n).count ≤ 5000
    rcases mem_putS.mp hn with h | h
    · rw [if_pos h]; exact Nat.zero_le _
    · rw [if_neg (fun z : n = st.after => hna (by rw [← z]; exact h))]; exact G.cnt n h
theorem NbL.put {K : Frag} {T : NbC} {M : Addr → Prop} {B H H' : Hp} {nb dn c r x dx : Addr} {st : NbS} {kvs : List (Key × V)} {ad : Nat → Addr} {v : V} {i : Nat} {src : Src} (L : NbL K T M B H nb st dn c r kvs ad) (G : NbG st) (hi : i ≤ st.row.length)
    (hx : H x = none) (hv : Dt K B v (encS src)) (h1 : H' nb = some (.ins T.N dn [("cells", .ref c), ("row", .ref r), ("after", .int ((st.after : Int) + 1))])) (h2 : H' c = some (.dK (putK kvs (.inl (st.after : Int)) (.ref x))))
    (h3 : H' r = some (.lst ((st.row.map fun n : Nat => V.int (n : Int)).take i ++ [V.int (st.after : Int)] ++ (st.row.map fun n : Nat => V.int (n : Int)).drop i)))
    (h4 : H' x = some (.ins T.C dx [("lines", v), ("count", .int 0), ("struck", .bl false), ("record", .non)])) (h5 : ∀ a o, a ≠ nb → a ≠ c → a ≠ r → H a = some o → H' a = some o) :
    Fr M (fun a => M a ∨ a = x) B H H' B ∧ NB K T (fun a => M a ∨ a = x) B H' nb (putS st i src) := by
  have hna : st.after ∉ st.row := fun h => by have := G.lt _ h; omega
  have bn := (L.m _ L.mn).1
  have bc := (L.m _ L.mc).1
  have br := (L.m _ L.mr).1
  have x' : Ex B H' := fun a o h => h5 a o (fun z => by rw [z, bn] at h; cases h) (fun z => by rw [z, bc] at h; cases h) (fun z => by rw [z, br] at h; cases h) (L.x _ _ h)
  have bx : B x = none := fresh_back L.x hx
  have stay : ∀ a, H a ≠ none → H' a ≠ none := fun a h => by
    by_cases e1 : a = nb
    · rw [e1, h1]; exact fun z => nomatch z
    by_cases e2 : a = c
    · rw [e2, h2]; exact fun z => nomatch z
    by_cases e3 : a = r
    · rw [e3, h3]; exact fun z => nomatch z
    cases q : H a with
    | none => exact absurd q h
    | some o => rw [h5 a o e1 e2 e3 q]; exact fun z => nomatch z
  have nx : ∀ n ∈ st.row, ad n ≠ x := fun n hn z => (L.m _ (L.mad n hn)).2 (by rw [z]; exact hx)
  refine ⟨⟨fun a o h n => h5 a o (fun z => n (z ▸ L.mn)) (fun z => n (z ▸ L.mc)) (fun z => n (z ▸ L.mr)) h, Ex.refl B, x', fun a h _ => h, fun a h => h.imp id fun z => by rw [z]; exact hx, fun a h => .inl h, stay⟩, dn, c, r, _, fun n => if n = st.after then x else ad n, x', fun a h => ?_, h1, h2, ?_, .inl L.mn, .inl L.mc, .inl L.mr, fun n hn => ?_, fun j hj => ?_, ?_, fun n hn => ?_, fun n hn => ?_, fun n hn m hm e => ?_⟩
  · rcases h with h | h
    · exact ⟨(L.m a h).1, stay a (L.m a h).2⟩
    · rw [h]
      exact ⟨bx, by rw [h4]; exact fun z => nomatch z⟩
  · rw [h3]
    show some (HO.lst _) = some (HO.lst ((st.row.take i ++ [st.after] ++ st.row.drop i).map fun n : Nat => V.int (n : Int)))
    rw [List.map_append, List.map_append, List.map_take, List.map_drop] <;> rfl
  · rw [valV_put]
    rcases mem_putS.mp hn with h | h
    · rw [if_pos (by rw [h]), if_pos h]
    · have hne : n ≠ st.after := fun z => hna (z ▸ h)
      rw [if_neg (fun z => hne (by have := Sum.inl.inj z; omega)), if_neg hne]
      exact L.kin n h
  · rw [valV_put, if_neg (fun z => hj st.after (mem_putS.mpr (.inl rfl)) (Sum.inl.inj z).symm)]
    exact L.kout j fun n hn => hj n (mem_putS.mpr (.inr hn))
  · have h1 := length_putK kvs (Sum.inl (st.after : Int)) (.ref x)
    have h2 := L.kl
    show _ ≤ st.after + 1
    omega
  · show M (if n = st.after then x else ad n) ∨ (if n = st.after then x else ad n) = x
    rcases mem_putS.mp hn with h | h
    · rw [if_pos h]; exact .inr rfl
    · rw [if_neg (fun z : n = st.after => hna (by rw [← z]; exact h))]; exact .inl (L.mad n h)
  · show CellAt K T B H' (if n = st.after then x else ad n) (if n = st.after then newCell src else st.cell n)
    rcases mem_putS.mp hn with h | h
    · rw [if_pos h, if_pos h]
      exact ⟨dx, v, .non, h4, hv, rfl⟩
    · have hne : n ≠ st.after := fun z => hna (z ▸ h)
      rw [if_neg hne, if_neg hne]
      exact (L.cells n h).mono (Ex.refl B) fun o ho => h5 _ o (L.ne_na h) (L.ne_ca h) (L.ne_ra h) ho
  · rcases mem_putS.mp hn with h | h <;> rcases mem_putS.mp hm with h' | h'
    · omega
    · have hne : m ≠ st.after := fun z => hna (z ▸ h')
      rw [if_pos h, if_neg hne] at e
      exact absurd e.symm (nx m h')
    · have hne : n ≠ st.after := fun z => hna (z ▸ h)
      rw [if_neg hne, if_pos h'] at e
      exact absurd e (nx n h)
    · have hne : n ≠ st.after := fun z => hna (z ▸ h)
      have hne' : m ≠ st.after := fun z => hna (z ▸ h')
      rw [if_neg hne, if_neg hne'] at e
      exact L.inj n h m h' e
end LC
namespace LC
open PySem PySem.Spec PyProof.Rows L2 Evl
/-! ### a cell written -/
def setS (st : NbS) (n : Nat) (c : CellS) : NbS := ⟨st.row, fun m => if m = n then c else st.cell m, st.after⟩
theorem NbL.setCell {K : Frag} {T : NbC} {M : Addr → Prop} {B H H' : Hp} {nb dn c r dx : Addr} {st : NbS} {kvs : List (Key × V)} {ad : Nat → Addr} {lv rv : V} {n : Nat} {cs : CellS} (L : NbL K T M B H nb st dn c r kvs ad) (hn : n ∈ st.row)
    (h1 : H' (ad n) = some (.ins T.C dx [("lines", lv), ("count", .int (cs.count : Int)), ("struck", .bl cs.struck), ("record", rv)])) (h2 : Dt K B lv (encS cs.src)) (h3 : RecAt K T B rv cs.recd) (h5 : ∀ a o, a ≠ ad n → H a = some o → H' a = some o) :
    Fr M M B H H' B ∧ NbL K T M B H' nb (setS st n cs) dn c r kvs ad := by
  have bn := (L.m _ (L.mad n hn)).1
  have x' : Ex B H' := fun a o h => h5 a o (fun z => by rw [z, bn] at h; cases h) (L.x _ _ h)
  have stay : ∀ a, H a ≠ none → H' a ≠ none := fun a h => by
    by_cases e1 : a = ad n
    · rw [e1, h1]; exact fun z => nomatch z
    cases q : H a with
    | none => exact absurd q h
    | some o => rw [h5 a o e1 q]; exact fun z => nomatch z
  refine ⟨⟨fun a o h m => h5 a o (fun z => m (by rw [z]; exact L.mad n hn)) h, Ex.refl B, x', fun a h _ => h, fun a h => .inl h, fun a h => h, stay⟩, x', fun a h => ⟨(L.m a h).1, stay a (L.m a h).2⟩, h5 _ _ (L.ne_na hn).symm L.hn, h5 _ _ (L.ne_ca hn).symm L.hc, h5 _ _ (L.ne_ra hn).symm L.hr, L.mn, L.mc, L.mr, L.kin, L.kout, L.kl, L.mad, fun m hm => ?_, L.inj⟩
  show CellAt K T B H' (ad m) (if m = n then cs else st.cell m)
  by_cases e : m = n
  · rw [if_pos e, e]
    exact ⟨dx, lv, rv, h1, h2, h3⟩
  · rw [if_neg e]
    exact (L.cells m hm).mono (Ex.refl B) fun o ho => h5 _ o (fun z => e (L.inj m hm n hn z)) ho
theorem NbG.setS {st : NbS} (G : NbG st) {n : Nat} {c : CellS} (hg : goodS c.src = true) (hc : c.count ≤ 5000) : NbG (setS st n c) := by
  refine ⟨fun m hm => ?_, G.lt, G.nd, G.len, G.few, fun m hm => ?_⟩
  · show goodS (if m = n then c else st.cell m).src = true
    split
    · exact hg
    · exact G.good m hm
  · show (if m = n then c else st.cell m).count ≤ 5000
    split
    · exact hc
    · exact G.cnt m hm
/-! ### what is told of cells -/
def R_version (cB : Addr) (st : NbS) (ds : List PyData) (o : PyData ⊕ Addr) : Prop := ∃ d, ds = [d] ∧ ((isCellD st d = false ∧ o = .inr cB) ∨ ∃ n ∈ st.row, d = .int ((n : Nat) : Int) ∧ o = .inl (.int ((st.cell n).count : Int)))
def R_source (cB : Addr) (st : NbS) (ds : List PyData) (o : PyData ⊕ Addr) : Prop := ∃ d, ds = [d] ∧ ((isCellD st d = false ∧ o = .inr cB) ∨ ∃ n ∈ st.row, d = .int ((n : Nat) : Int) ∧ o = .inl (encS (st.cell n).src))
def R_numbers (st : NbS) (ds : List PyData) (o : PyData ⊕ Addr) : Prop := ds = [] ∧ o = .inl (.list (st.row.map fun n : Nat => PyData.int (n : Int)))
def chC (c : CellS) (src : Src) : CellS := ⟨src, c.count + 1, c.struck, c.recd⟩
def R_change (cC cP cS cB : Addr) (st : NbS) (ds : List PyData) (o : PyData ⊕ Addr) (st' : NbS) : Prop := ∃ d e s, ds = [d, e, s] ∧ okD s = true ∧
  ((isCellD st d = false ∧ o = .inr cC ∧ st' = st) ∨ ∃ n ∈ st.row, d = .int ((n : Nat) : Int) ∧
    ((isWithin e 0 1000000 = false ∧ o = .inr cP ∧ st' = st) ∨ ∃ i : Int, e = .int i ∧ isWithin e 0 1000000 = true ∧
      ((isSource s = false ∧ o = .inr cS ∧ st' = st) ∨ ∃ src, s = encS src ∧ goodS src = true ∧
        ((i ≠ ((st.cell n).count : Int) ∧ o = .inr cB ∧ st' = st) ∨ (i = ((st.cell n).count : Int) ∧ o = .inl (.int ((st.cell n).count + 1 : Int)) ∧ st' = LC.setS st n (chC (st.cell n) src))))))
def R_holds0 (st : NbS) (ds : List PyData) (o : PyData ⊕ Addr) : Prop := ∃ n x, ds = [.int ((n : Nat) : Int), x] ∧ n ∈ st.row ∧ (st.cell n).recd = none ∧ o = .inl (.bool false)
def R_fresh0 (st : NbS) (ds : List PyData) (o : PyData ⊕ Addr) : Prop := ds = [] ∧ (∀ n ∈ st.row, (st.cell n).recd = none) ∧ o = .inl (.list [])
def R_state0 (st : NbS) (ds : List PyData) (o : PyData ⊕ Addr) : Prop := ∃ n : Nat, ds = [.int (n : Int)] ∧ n ∈ st.row ∧ (st.cell n).struck = false ∧ (st.cell n).recd = none ∧ o = .inl (.str "new")
def R_never (st : NbS) (ds : List PyData) (o : PyData ⊕ Addr) : Prop := False
theorem cell_int {st : NbS} {n : Nat} (h : n ∈ st.row) : isCellD st (.int (n : Int)) = true := isCell_iff.mpr ⟨n, h, rfl⟩
theorem spNq_never {P : Program} {w : World} {K : Frag} {mg : Str → Option Value} {base : Heap} {CX : CXT} {k : Nat} {T : NbC} {x q m : Str} {st : Stmt} {f : Addr} {fd : FuncData} {ps : List Str} (F : FnP K x q st f fd) (g : Meth K T.N m f) (b : Binds K fd ps []) : HasM P w K mg base CX k T.N m ps (spNq K T R_never) :=
  ⟨f, fd, ⟨fun vs H Q E z => by obtain ⟨_, _, _, _, _, _, _, _, _, _, _, z, _⟩ := z; exact z.elim, fun A outer s H args us vs Q E hr e0 hb hv z => by obtain ⟨_, _, _, _, _, _, _, _, _, _, _, z, _⟩ := z; exact z.elim⟩, b, g⟩
theorem NbL.base {K : Frag} {T : NbC} {M : Addr → Prop} {B B' H : Hp} {nb dn c r : Addr} {st : NbS} {kvs : List (Key × V)} {ad : Nat → Addr} (L : NbL K T M B H nb st dn c r kvs ad) (x : Ex B B') (x' : Ex B' H) (m : ∀ a, M a → B' a = none) : NbL K T M B' H nb st dn c r kvs ad :=
  ⟨x', fun a h => ⟨m a h, (L.m a h).2⟩, L.hn, L.hc, L.hr, L.mn, L.mc, L.mr, L.kin, L.kout, L.kl, L.mad, fun n hn => (L.cells n hn).mono x fun o h => h, L.inj⟩
theorem ev_isN {σ : L2.St} {H : Hp} {ta : TE} {v : V} (h : Ev ta σ H v) : Ev (tOp (fun x y H Q => y = V.non ∧ Q (.bl (decide (x = .non))) H) ta (tC .non)) σ H (.bl (decide (v = .non))) := fun H1 e Q q => h H1 e _ fun H2 e2 => ⟨rfl, q H2 e2⟩
theorem ev_notN {σ : L2.St} {H : Hp} {ta : TE} {v : V} (h : Ev ta σ H v) : Ev (tOp (fun x y H Q => y = V.non ∧ Q (.bl (!decide (x = .non))) H) ta (tC .non)) σ H (.bl (!decide (v = .non))) := fun H1 e Q q => h H1 e _ fun H2 e2 => ⟨rfl, q H2 e2⟩
end LC

namespace LC
open PySem PySem.Spec PyProof.Rows L2 Evl
/-! ### xs[i] += e, xs[i] = e -/
def rGetL : V → V → Hp → VK → Prop := fun x y H Q => ∃ p xs i v, x = .ref p ∧ y = .int i ∧ H p = some (.lst xs) ∧ 0 ≤ i ∧ xs[i.toNat]? = some v ∧ Q v H
theorem get_list {X : Cx} : PGet X rGetL := by
  intro pins s σ H x y v u Q I rx ry h
  obtain ⟨p, xs, i, z, rfl, rfl, hq, h0, he, q⟩ := h
  cases rx
  obtain ⟨t, rfl⟩ := ry
  obtain ⟨its, r, pl, hz⟩ := I.list (sq_of hq)
  obtain ⟨w, ew, rw'⟩ := r.get he
  have hl := r.length
  have hn := line63
  have hlt : i.toNat < xs.length := (List.getElem?_eq_some_iff.mp he).1
  exact wpAny_getItem_list pl.isList h0 (by omega) (by simpa using ew) ⟨z, H, I, rw', q⟩
section
variable {K : Frag} {σ : L2.St} {H : Hp} {to ti te : TE} {D : Ends} {p : Addr} {xs : List V} {i : Nat}
theorem s_augL {a b : Int} (ho : Ev to σ H (.ref p)) (hi : Ev ti σ H (.int (i : Int))) (hp : H p = some (.lst xs)) (hx : xs[i]? = some (.int a)) (he : Ev te σ H (.int b)) (k : ∀ H1, Ex H H1 → D.nx σ (upd H1 p (.lst (xs.set i (.int (a + b)))))) : tAugS to ti te rGetL (ipI fun i j => i + j) rSetL D σ H := by
  refine ho H (Ex.refl H) _ fun H1 e1 => hi H1 e1 _ fun H2 e2 => ⟨p, xs, (i : Int), .int a, rfl, rfl, e2 _ _ (e1 _ _ hp), by omega, by rw [Int.toNat_natCast]; exact hx, ?_⟩
  have hlt : i < xs.length := (List.getElem?_eq_some_iff.mp hx).1
  refine he H2 (e1.trans e2) _ fun H3 e3 => ⟨a, b, rfl, rfl, p, xs, (i : Int), i, rfl, rfl, ((e1.trans e2).trans e3) _ _ hp, ixN_nat hlt, k H3 ((e1.trans e2).trans e3)⟩
theorem s_setL {v : V} (he : Ev te σ H v) (ho : Ev to σ H (.ref p)) (hi : Ev ti σ H (.int (i : Int))) (hp : H p = some (.lst xs)) (hlt : i < xs.length) (k : ∀ H1, Ex H H1 → D.nx σ (upd H1 p (.lst (xs.set i v)))) : tAsg te (gSub to ti rSetL) D σ H :=
  he H (Ex.refl H) _ fun H1 e1 => ho H1 e1 _ fun H2 e2 => hi H2 (e1.trans e2) _ fun H3 e3 => ⟨p, xs, (i : Int), i, rfl, rfl, ((e1.trans e2).trans e3) _ _ hp, ixN_nat hlt, k H3 ((e1.trans e2).trans e3)⟩
/-- .. of data -/
theorem s_setLB {B : Hp} {d : PyData} (he : EvB K te σ B H d) (ho : Ev to σ H (.ref p)) (hi : Ev ti σ H (.int (i : Int))) (hp : H p = some (.lst xs)) (hlt : i < xs.length) (k : ∀ v H1 Hd, Gr B H H1 Hd → Dt K Hd v d → D.nx σ (upd H1 p (.lst (xs.set i v)))) : tAsg te (gSub to ti rSetL) D σ H :=
  he H (Ex.refl H) _ fun v H1 Hd g hd => ho H1 g.ex _ fun H2 e2 => hi H2 (g.ex.trans e2) _ fun H3 e3 => ⟨p, xs, (i : Int), i, rfl, rfl, ((g.ex.trans e2).trans e3) _ _ hp, ixN_nat hlt, k v H3 Hd (g.more (e2.trans e3)) hd⟩
end
end LC
namespace LC
open PySem PySem.Spec PyProof.Rows L2 Evl
/-! ### a new list of data, which may be changed later on -/
def EvF (K : Frag) (te : TE) (σ : L2.St) (B H : Hp) (ds : List PyData) : Prop := ∀ H1, Ex H H1 → ∀ Q : VK, (∀ p vs H2 Hd, H1 p = none → Gr B H1 H2 Hd → Hd p = none → H2 p = some (.lst vs) → DtAll K Hd vs ds → Q (.ref p) H2) → te σ H1 Q
section
variable {K : Frag} {σ : L2.St} {A B H H' : Hp} {te ta tb tn : TE} {d z : PyData} {targs : TA} {ds : List PyData} {D : Ends}
theorem EvF.toB (h : EvF K te σ B H ds) : EvB K te σ B H (.list ds) := fun H1 e Q q => h H1 e Q fun p vs H2 Hd hp g hd h2 hv => by
  have hu : Ex Hd (upd Hd p (.lst vs)) := Ex.new hd
  refine q (.ref p) H2 (upd Hd p (.lst vs)) ⟨g.ex, g.xd.trans hu, fun a o h => ?_, fun a h0 h1 => ?_⟩ (.lst upd_same (dpAll_ex hu _ _ hv))
  · by_cases z : a = p
    · rw [z, upd_same] at h
      rw [z, ← h]
      exact h2
    · rw [upd_ne z] at h
      exact g.d2 _ _ h
  · have ne : a ≠ p := fun z => h1 (by rw [z]; exact hp)
    rw [upd_ne ne]
    exact g.fr a h0 h1
theorem EvB.wide (h : EvB K te σ B H d) (x : Ex B A) (y : Ex A H) : EvB K te σ A H d := fun H1 e Q q => h H1 e Q fun v H2 Hd g hd => q v H2 _ (g.wide x (y.trans e)) (dp_ex (g.wide_r (y.trans e)) _ _ hd)
theorem evf_lst (h : EvBs K targs σ B H ds) (hl : ds.length ≤ 100000) : EvF K (tLst targs) σ B H ds := fun H1 e _ q =>
  h H1 e _ fun vs H2 Hd g hds => ⟨by rw [dpAll_len hds]; exact sz_of hl, fun p hp => q p vs _ Hd (fresh_back g.ex hp) (g.more (Ex.new hp)) (fresh_back g.d2 hp) upd_same hds⟩
theorem evf_rep {n : Int} (h : EvF K ta σ B H ds) (hn : Ev tn σ H (.int n)) (h0 : 0 ≤ n ∧ n ≤ 1000) (hl : ds.length ≤ 50) : EvF K (tOp (rMulU K) ta tn) σ B H (List.replicate n.toNat ds).flatten := fun H1 e Q q =>
  h H1 e _ fun p vs H2 Hd hp g hd h2 hv => hn H2 (e.trans g.ex) _ fun H3 e3 => .inr (.inl ⟨p, n, vs, rfl, rfl, e3 _ _ h2, by omega, by omega, by
    rw [dpAll_len hv]
    refine sz_of (Nat.le_trans (Nat.mul_le_mul hl (show n.toNat ≤ 1000 by omega)) (by decide)), fun l hl2 => q l _ _ Hd (fresh_back (g.ex.trans e3) hl2) ((g.more e3).more (Ex.new hl2)) (fresh_back (g.d2.trans e3) hl2) upd_same (dpAll_rep hv _)⟩)
theorem lc_turnB {H2 : Hp} {L : Addr} {out : List PyData} {σ2 : L2.St} (e : Ex A H2) (hD : H2 L = none) (p : Acc K A H2 L out H') (hl : out.length < 50000) (he : EvB K te σ2 A H2 z) :
    tYes σ2 H' fun b' H3 => if b' = true then te σ2 H3 fun y H4 => ∃ acc, H4 L = some (.lst acc) ∧ acc.length < sizeLine ∧ Acc K A H2 L (out ++ [z]) (upd H4 L (.lst (acc ++ [y]))) else Acc K A H2 L (out ++ [z]) H3 := by
  show te σ2 H' _
  refine he H' p.1 _ fun y H4 C g hy => ?_
  obtain ⟨acc, h1, h2, h3⟩ := p.push (fresh_back e hD) hD g hy
  exact ⟨acc, h1, sz_lt (by omega), h3⟩
theorem evf_lcR {ta : TA} {n j : Nat} {vs : List Nat} (g : Nat → PyData) (h : EvBs K ta σ B H [.int (n : Int)]) (hz : n ≤ 40000) (hw : ∀ x, wipe ((wipe σ vs).set j (some x)) vs = wipe σ vs)
    (he : ∀ i, i < n → EvB K te ((wipe σ vs).set j (some (.int (i : Int)))) B H (g i)) : EvF K (tLc (iRng1 ta) (gName j) tYes te vs) σ B H ((List.range n).map g) := fun H1 e Q q => h H1 e _ fun ws H2 A gr hd => by
  obtain rfl : ws = [.int (n : Int)] := by
    cases hd with
    | cons h1 h2 => cases h2; rw [dp_int h1]
  refine ⟨n, rfl, by omega, by omega, fun L hL => ?_⟩
  refine lc_range (lo := 0) (n := (n : Int).toNat) (fun i H' => Acc K A H2 L ((List.range i).map g) H') (Acc.nil gr.d2 hL) (fun i H' hi p => ?_) fun H' p => ?_
  · have e0 : (0 : Int) + (i : Int) = (i : Int) := Int.zero_add _
    have hi2 : i < n := by omega
    have key := lc_turnB (te := te) (σ2 := (wipe σ vs).set j (some (.int (i : Int)))) gr.d2 hL p (by rw [List.length_map, List.length_range]; omega) (((he i hi2).ex (e.trans gr.ex)).wide gr.xd gr.d2)
    have e1 : (List.range (i + 1)).map g = (List.range i).map g ++ [g i] := by rw [List.range_succ, List.map_append] <;> rfl
    show gName j (.int ((0 : Int) + (i : Int))) (wipe σ vs) H' _
    rw [e0]
    refine ⟨hw _, ?_⟩
    rw [e1]
    exact key
  · have p2 : Acc K A H2 L ((List.range (n : Int).toNat).map g) H' := p
    rw [Int.toNat_natCast] at p2
    obtain ⟨p1, C, acc, h1, h2, h3, h4, h5, h6⟩ := p2
    exact q L acc H' C (fresh_back gr.ex hL) ⟨gr.ex.trans p1, gr.xd.trans h2, h3, fun a h0 hn => h5 a (gr.fr a h0 hn) (ne_none gr.ex hn)⟩ h4 h1 h6
theorem s_asgF {i : Nat} (h : EvF K te σ B H ds) (k : ∀ p vs H1 Hd, H p = none → Gr B H H1 Hd → Hd p = none → H1 p = some (.lst vs) → DtAll K Hd vs ds → D.nx (σ.set i (some (.ref p))) H1) : tAsg te (gName i) D σ H := h H (Ex.refl H) _ k
theorem s_setLF {to ti : TE} {p : Addr} {xs : List V} {i : Nat} (he : EvF K te σ B H ds) (ho : Ev to σ H (.ref p)) (hi : Ev ti σ H (.int (i : Int))) (hp : H p = some (.lst xs)) (hlt : i < xs.length) (k : ∀ l vs H1 Hd, H l = none → Gr B H H1 Hd → Hd l = none → H1 l = some (.lst vs) → DtAll K Hd vs ds → D.nx σ (upd H1 p (.lst (xs.set i (.ref l))))) : tAsg te (gSub to ti rSetL) D σ H :=
  he H (Ex.refl H) _ fun l vs H1 Hd hl g hd h1 hv => ho H1 g.ex _ fun H2 e2 => hi H2 (g.ex.trans e2) _ fun H3 e3 => ⟨p, xs, (i : Int), i, rfl, rfl, ((g.ex.trans e2).trans e3) _ _ hp, ixN_nat hlt, k l vs H3 Hd hl (g.more (e2.trans e3)) hd ((e2.trans e3) _ _ h1) hv⟩
theorem s_two {i : Nat} {es : List PyData} (h1 : EvF K ta σ B H ds) (h2 : EvF K tb σ B H es) (k : ∀ p l m us vs H1 Hd, H p = none → H l = none → H m = none → l ≠ m → p ≠ l → p ≠ m → Gr B H H1 Hd → Hd p = none → Hd l = none → Hd m = none →
    H1 p = some (.lst [.ref l, .ref m]) → H1 l = some (.lst us) → H1 m = some (.lst vs) → DtAll K Hd us ds → DtAll K Hd vs es → D.nx (σ.set i (some (.ref p))) H1) : tAsg (tLst (tCons ta (tCons tb tNil))) (gName i) D σ H :=
  h1 H (Ex.refl H) _ fun l us H1 A hl g1 hA hu du => h2 H1 g1.ex _ fun m vs H2 C hm g2 hC hv dv => ⟨by rw [sizeLine_eq]; show 2 ≤ _; omega, fun p hp => by
    have g := g1.join g2
    have jn : ∀ a, A a = none → C a = none → join A C a = none := fun a h h' => by unfold join; rw [h]; exact h'
    have cl : C l = none := g2.fr l (fresh_back g1.xd hA) (by rw [hu]; exact fun z => nomatch z)
    have am : A m = none := fresh_back g1.d2 hm
    have h2l : H2 l = some (.lst us) := g2.ex _ _ hu
    have pl : p ≠ l := fun z => by rw [z, h2l] at hp; cases hp
    have pm : p ≠ m := fun z => by rw [z, hv] at hp; cases hp
    have lm : l ≠ m := fun z => by rw [z] at hu; rw [hu] at hm; cases hm
    refine k p l m us vs _ _ (fresh_back g.ex hp) hl (fresh_back g1.ex hm) lm pl pm (g.more (Ex.new hp)) (fresh_back g.d2 hp) (jn l hA cl) (jn m am hC) upd_same ?_ ?_ (dpAll_ex join_l _ _ du) (dpAll_ex (join_r (g1.d2.trans g2.ex) g2.d2) _ _ dv)
    · rw [upd_ne pl.symm]
      exact h2l
    · rw [upd_ne pm.symm]
      exact hv⟩
end
end LC

namespace LC
open PySem PySem.Spec PyProof.Rows L2 Evl
/-! ### a new notebook -/
def st0 : NbS := ⟨[], fun _ => newCell [], 0⟩
theorem NbG.st0 : NbG LC.st0 := ⟨fun _ h => (nomatch h), fun _ h => (nomatch h), List.nodup_nil, Nat.zero_le _, Nat.zero_le _, fun _ h => (nomatch h)⟩
section
variable {K : Frag} {T : NbC} {σ : L2.St} {H B : Hp} {E : XK} {Q : VK} {D : Ends} {i : Nat}
theorem t_new (x : Ex B H) (k : ∀ nb H' M, Ex H H' → NB K T M B H' nb st0 → (∀ a, M a → H a = none) → Q (.ref nb) H') : tMake T.N (spNbI K T) [] E tNil σ H Q := by
  intro p dx hx hdx hne
  refine ⟨p, dx, rfl, upd_same, fun c r H' hc hr ncr h1 h2 h3 h4 => ⟨rfl, ?_⟩⟩
  have nc : c ≠ p := fun z => by rw [z, upd_same] at hc; cases hc
  have nr : r ≠ p := fun z => by rw [z, upd_same] at hr; cases hr
  rw [upd_ne nc] at hc
  rw [upd_ne nr] at hr
  have ncd : c ≠ dx := fun z => by rw [z, upd_same] at hc; cases hc
  have nrd : r ≠ dx := fun z => by rw [z, upd_same] at hr; cases hr
  rw [upd_ne ncd] at hc
  rw [upd_ne nrd] at hr
  have e : Ex H H' := fun a o h => by
    have h1 : a ≠ p := ne_of_none h hx
    have h2 : a ≠ dx := ne_of_none h hdx
    refine h4 a o h1 ?_
    rw [upd_ne h1, upd_ne h2]
    exact h
  have hM : ∀ a, (a = p ∨ a = c ∨ a = r) → H a = none := fun a h => by
    rcases h with h | h | h <;> rw [h] <;> assumption
  refine k p H' (fun a => a = p ∨ a = c ∨ a = r) e ⟨dx, c, r, [], fun _ => 0, x.trans e, fun a h => ⟨fresh_back x (hM a h), ?_⟩, h1, h2, h3, .inl rfl, .inr (.inl rfl), .inr (.inr rfl), fun _ h => (nomatch h), fun _ _ => rfl, Nat.le_refl _, fun _ h => (nomatch h), fun _ h => (nomatch h), fun _ h => (nomatch h)⟩ hM
  rcases h with h | h | h <;> rw [h]
  · rw [h1]; exact fun z => nomatch z
  · rw [h2]; exact fun z => nomatch z
  · rw [h3]; exact fun z => nomatch z
theorem s_new_nb (x : Ex B H) (k : ∀ nb H' M, Ex H H' → NB K T M B H' nb st0 → (∀ a, M a → H a = none) → D.nx (σ.set i (some (.ref nb))) H') : tAsg (tMake T.N (spNbI K T) [] E tNil) (gName i) D σ H := t_new (Q := fun v H' => D.nx (σ.set i (some v)) H') x k
theorem ev_ixV {ta tb : TE} {p : Addr} {xs : List V} {v : V} {j : Nat} (h : Ev ta σ H (.ref p)) (hi : Ev tb σ H (.int (j : Int))) (hp : H p = some (.lst xs)) (hx : xs[j]? = some v) : Ev (tOp (rIx K) ta tb) σ H v := fun H1 e Q q =>
  h H1 e _ fun H2 e2 => hi H2 (e.trans e2) _ fun H3 e3 => .inl ⟨p, xs, (j : Int), v, rfl, rfl, sq_of (((e.trans e2).trans e3) _ _ hp), atI_nat hx, q H3 (e2.trans e3)⟩
end
/-! ### k14: a notebook, versions, what two hands have seen, sources -/
structure I14 (K : Frag) (T : NbC) (M : Addr → Prop) (B H : Hp) (nb : Addr) (st : NbS) (many lim : Nat) (pV pS pR : Addr) (l : Nat → Addr) (aa : Nat → List Int) (vs : List V) : Prop where
  N : NB K T M B H nb st
  G : NbG st
  row : st.row = List.range many
  pl : ∀ n, n < many → (st.cell n).struck = false ∧ (st.cell n).recd = none ∧ (st.cell n).count ≤ lim
  hV : H pV = some (.lst ((List.range many).map fun n => V.int ((st.cell n).count : Int)))
  hS : H pS = some (.lst [.ref (l 0), .ref (l 1)])
  hL : ∀ h, h < 2 → H (l h) = some (.lst ((aa h).map V.int))
  nL : ∀ h, h < 2 → (aa h).length = many
  bL : ∀ h, h < 2 → ∀ x ∈ aa h, 0 ≤ x ∧ x ≤ (lim : Int)
  hR : H pR = some (.lst vs)
  dR : DtAll K B vs ((List.range many).map fun n => encS (st.cell n).src)
  o : ∀ p ∈ [pV, pS, pR, l 0, l 1], B p = none ∧ ¬ M p
  nd : [pV, pS, pR, l 0, l 1].Nodup
section
variable {K : Frag} {T : NbC} {M : Addr → Prop} {B B' H H' : Hp} {nb : Addr} {st : NbS} {many lm : Nat} {pV pS pR : Addr} {l : Nat → Addr} {aa : Nat → List Int} {vs : List V}
theorem I14.there (I : I14 K T M B H nb st many lm pV pS pR l aa vs) : ∀ p ∈ [pV, pS, pR, l 0, l 1], H p ≠ none := fun p hp => by
  simp only [List.mem_cons, List.not_mem_nil, or_false] at hp
  rcases hp with rfl | rfl | rfl | rfl | rfl
  · rw [I.hV]; exact fun z => nomatch z
  · rw [I.hS]; exact fun z => nomatch z
  · rw [I.hR]; exact fun z => nomatch z
  · rw [I.hL 0 (by omega)]; exact fun z => nomatch z
  · rw [I.hL 1 (by omega)]; exact fun z => nomatch z
theorem I14.gr (I : I14 K T M B H nb st many lm pV pS pR l aa vs) (g : Gr B H H' B') : I14 K T M B' H' nb st many lm pV pS pR l aa vs :=
  ⟨I.N.gr g, I.G, I.row, I.pl, g.ex _ _ I.hV, g.ex _ _ I.hS, fun h hh => g.ex _ _ (I.hL h hh), I.nL, I.bL, g.ex _ _ I.hR, dpAll_ex g.xd _ _ I.dR, fun p hp => ⟨g.fr p (I.o p hp).1 (I.there p hp), (I.o p hp).2⟩, I.nd⟩
theorem I14.ex (I : I14 K T M B H nb st many lm pV pS pR l aa vs) (e : Ex H H') : I14 K T M B H' nb st many lm pV pS pR l aa vs := I.gr (Gr.base I.N.x e)
theorem I14.more {lm' : Nat} (I : I14 K T M B H nb st many lm pV pS pR l aa vs) (h : lm ≤ lm') : I14 K T M B H nb st many lm' pV pS pR l aa vs :=
  ⟨I.N, I.G, I.row, fun n hn => ⟨(I.pl n hn).1, (I.pl n hn).2.1, Nat.le_trans (I.pl n hn).2.2 h⟩, I.hV, I.hS, I.hL, I.nL, fun h' hh x hx => ⟨(I.bL h' hh x hx).1, by have := (I.bL h' hh x hx).2; omega⟩, I.hR, I.dR, I.o, I.nd⟩
theorem nb_upd {p : Addr} {u : HO} (h : NB K T M B H nb st) (hb : B p = none) (hm : ¬ M p) (hh : H p ≠ none) : NB K T M B (upd H p u) nb st :=
  h.apart (M := fun x => x = p) (M' := fun x => x = p) (fr_upd h.x rfl hb hh) fun a ha z => hm (z ▸ ha)
/-- seen[hand] = a new list -/
theorem I14.hand (I : I14 K T M B H nb st many lm pV pS pR l aa vs) {p : Addr} {ys : List Int} {hd : Nat} (hh : hd < 2) (hp : H p = some (.lst (ys.map V.int))) (hn : ys.length = many) (hy : ∀ x ∈ ys, 0 ≤ x ∧ x ≤ (lm : Int)) (ho : B p = none ∧ ¬ M p) (hne : p ∉ [pV, pS, pR, l 0, l 1]) :
    I14 K T M B (upd H pS (.lst (([.ref (l 0), .ref (l 1)] : List V).set hd (.ref p)))) nb st many lm pV pS pR (fun h => if h = hd then p else l h) (fun h => if h = hd then ys else aa h) vs := by
  have nd := I.nd
  simp only [List.nodup_cons, List.mem_cons, List.not_mem_nil, or_false, not_or, not_false_eq_true, List.nodup_nil, and_true] at nd
  simp only [List.mem_cons, List.not_mem_nil, or_false, not_or] at hne
  obtain ⟨⟨n1, n2, n3, n4⟩, ⟨n5, n6, n7⟩, ⟨n8, n9⟩, n10⟩ := nd
  obtain ⟨m1, m2, m3, m4, m5⟩ := hne
  have oS := I.o pS (by simp)
  refine ⟨nb_upd I.N oS.1 oS.2 (I.there pS (by simp)), I.G, I.row, I.pl, ?_, ?_, fun h hh' => ?_, fun h hh' => ?_, fun h hh' => ?_, ?_, I.dR, ?_, ?_⟩
  · rw [upd_ne n1]; exact I.hV
  · rw [upd_same]
    have : hd = 0 ∨ hd = 1 := by omega
    rcases this with rfl | rfl <;> rfl
  · show upd H pS _ (if h = hd then p else l h) = some (.lst ((if h = hd then ys else aa h).map V.int))
    by_cases e : h = hd
    · rw [if_pos e, if_pos e, upd_ne m2]; exact hp
    · rw [if_neg e, if_neg e, upd_ne]
      · exact I.hL h hh'
      · have : h = 0 ∨ h = 1 := by omega
        rcases this with rfl | rfl
        · exact Ne.symm n6
        · exact Ne.symm n7
  · show (if h = hd then ys else aa h).length = many
    split
    · exact hn
    · exact I.nL h hh'
  · show ∀ x ∈ (if h = hd then ys else aa h), _
    split
    · exact hy
    · exact I.bL h hh'
  · rw [upd_ne (Ne.symm n5)]; exact I.hR
  · intro q hq
    simp only [List.mem_cons, List.not_mem_nil, or_false] at hq
    rcases hq with rfl | rfl | rfl | hq | hq
    · exact I.o _ (by simp)
    · exact oS
    · exact I.o _ (by simp)
    · rw [hq]
      split
      · exact ho
      · exact I.o _ (by simp)
    · rw [hq]
      split
      · exact ho
      · exact I.o _ (by simp)
  · have : hd = 0 ∨ hd = 1 := by omega
    rcases this with rfl | rfl
    · simp [n1, n2, n4, n5, n7, n9, Ne.symm m1, Ne.symm m2, Ne.symm m3, m5]
    · simp [n1, n2, n3, n5, n6, n8, Ne.symm m1, Ne.symm m2, Ne.symm m3, Ne.symm m4]
theorem zeros {us : List V} : ∀ {n : Nat} {us : List V}, DtAll K H us (List.replicate n [PyData.int 0]).flatten → us = (List.replicate n (0 : Int)).map V.int
  | 0, us, h => by
    cases h
    rfl
  | n + 1, us, h => by
    rw [List.replicate_succ, List.flatten_cons] at h
    cases h with
    | cons h1 h2 =>
      rw [dp_int h1, zeros (us := []) h2, List.replicate_succ, List.map_cons]
theorem ints_inv : ∀ {xs : List Int} {us : List V}, DtAll K H us (xs.map PyData.int) → us = xs.map V.int
  | [], _, h => by cases h; rfl
  | x :: xs, _, h => by
    cases h with
    | cons h1 h2 => rw [dp_int h1, ints_inv h2, List.map_cons]
end
theorem set_range {α : Type} (f : Nat → α) (m n : Nat) (y : α) : ((List.range m).map f).set n y = (List.range m).map fun k => if k = n then y else f k := by
  apply List.ext_getElem?
  intro k
  rw [List.getElem?_set, List.getElem?_map, List.getElem?_map, List.length_map, List.length_range]
  by_cases h : n = k
  · subst h
    rw [if_pos rfl]
    by_cases hm : n < m
    · rw [if_pos hm, List.getElem?_range hm]
      simp
    · rw [if_neg hm, List.getElem?_eq_none (by rw [List.length_range]; omega)]
      rfl
  · rw [if_neg h]
    by_cases hm : k < m
    · rw [List.getElem?_range hm]
      simp [Ne.symm h]
    · rw [List.getElem?_eq_none (by rw [List.length_range]; omega)]
      rfl
theorem dpAll_set {K : Frag} {H : Hp} {v : V} {d : PyData} (hv : Dt K H v d) : ∀ {vs : List V} {ds : List PyData} (n : Nat), DtAll K H vs ds → DtAll K H (vs.set n v) (ds.set n d)
  | _, _, _, .nil => .nil
  | _, _, 0, .cons _ t => .cons hv t
  | _, _, n + 1, .cons h t => .cons h (dpAll_set hv n t)
section
variable {K : Frag} {T : NbC} {M M' : Addr → Prop} {B B1 H H1 H2 : Hp} {nb : Addr} {st : NbS} {many lm n hd : Nat} {pV pS pR : Addr} {l : Nat → Addr} {aa : Nat → List Int} {vs : List V} {v : V} {src : Src}
theorem I14.change (I : I14 K T M B H nb st many lm pV pS pR l aa vs) (hlm : lm < 5000) (f : Fr M M' B H H1 B1) (hN : NB K T M' B1 H1 nb (LC.setS st n (chC (st.cell n) src))) (hg : goodS src = true) (hn : n < many) (hh : hd < 2) (hv : Dt K B1 v (encS src))
    (h1 : H2 pV = some (.lst (((List.range many).map fun n => V.int ((st.cell n).count : Int)).set n (.int ((st.cell n).count + 1 : Int))))) (h2 : H2 pR = some (.lst (vs.set n v))) (h3 : H2 (l hd) = some (.lst (((aa hd).map V.int).set n (.int ((st.cell n).count + 1 : Int)))))
    (h4 : ∀ a o, a ≠ pV → a ≠ pR → a ≠ l hd → H1 a = some o → H2 a = some o) :
    I14 K T M' B1 H2 nb (LC.setS st n (chC (st.cell n) src)) many (lm + 1) pV pS pR l (fun h => if h = hd then (aa h).set n ((st.cell n).count + 1 : Int) else aa h) (vs.set n v) := by
  have nd := I.nd
  simp only [List.nodup_cons, List.mem_cons, List.not_mem_nil, or_false, not_or, not_false_eq_true, List.nodup_nil, and_true] at nd
  obtain ⟨⟨n1, n2, n3, n4⟩, ⟨n5, n6, n7⟩, ⟨n8, n9⟩, n10⟩ := nd
  have o' : ∀ p ∈ [pV, pS, pR, l 0, l 1], B1 p = none ∧ ¬ M' p := fun p hp => ⟨f.nw p (I.o p hp).1 (I.there p hp), fun z => by
    rcases f.mm p z with z | z
    · exact (I.o p hp).2 z
    · exact I.there p hp z⟩
  have hl : l hd ∈ [pV, pS, pR, l 0, l 1] := by
    have : hd = 0 ∨ hd = 1 := by omega
    rcases this with rfl | rfl <;> simp
  have k1 : ∀ p ∈ [pV, pS, pR, l 0, l 1], ∀ o, H p = some o → H1 p = some o := fun p hp o h => f.fr p o h (I.o p hp).2
  have lS : pS ≠ l hd := by
    have : hd = 0 ∨ hd = 1 := by omega
    rcases this with rfl | rfl
    · exact n6
    · exact n7
  have d2 : Ex B1 H2 := fun a o h => h4 a o (fun z => by rw [z, (o' pV (by simp)).1] at h; cases h) (fun z => by rw [z, (o' pR (by simp)).1] at h; cases h) (fun z => by rw [z, (o' _ hl).1] at h; cases h) (f.d2 _ _ h)
  refine ⟨hN.apart (M := fun x => x = pV ∨ x = pR ∨ x = l hd) (M' := fun x => x = pV ∨ x = pR ∨ x = l hd) (B' := B1) (H' := H2) ⟨fun a o h m => h4 a o (fun z => m (.inl z)) (fun z => m (.inr (.inl z))) (fun z => m (.inr (.inr z))) h, Ex.refl _, d2, fun a h _ => h, fun a h => .inl h, fun a h => h, fun a h => ?_⟩ fun a ha z => ?_, I.G.setS hg ?_, I.row, fun m hm => ?_, ?_, ?_, fun h hh' => ?_, fun h hh' => ?_, fun h hh' x hx => ?_, h2, ?_, o', I.nd⟩
  · by_cases e1 : a = pV
    · rw [e1, h1]; exact fun z => nomatch z
    by_cases e2 : a = pR
    · rw [e2, h2]; exact fun z => nomatch z
    by_cases e3 : a = l hd
    · rw [e3, h3]; exact fun z => nomatch z
    cases q : H1 a with
    | none => exact absurd q h
    | some o => rw [h4 a o e1 e2 e3 q]; exact fun z => nomatch z
  · rcases z with rfl | rfl | rfl
    · exact (o' _ (by simp)).2 ha
    · exact (o' _ (by simp)).2 ha
    · exact (o' _ hl).2 ha
  · show (st.cell n).count + 1 ≤ 5000
    have := (I.pl n hn).2.2
    omega
  · show (if m = n then chC (st.cell n) src else st.cell m).struck = false ∧ (if m = n then chC (st.cell n) src else st.cell m).recd = none ∧ (if m = n then chC (st.cell n) src else st.cell m).count ≤ lm + 1
    by_cases e : m = n
    · rw [if_pos e]
      exact ⟨(I.pl n hn).1, (I.pl n hn).2.1, by show (st.cell n).count + 1 ≤ lm + 1; have := (I.pl n hn).2.2; omega⟩
    · rw [if_neg e]
      exact ⟨(I.pl m hm).1, (I.pl m hm).2.1, by have := (I.pl m hm).2.2; omega⟩
  · rw [h1, set_range]
    show some (HO.lst _) = some (HO.lst ((List.range many).map fun m => V.int ((if m = n then chC (st.cell n) src else st.cell m).count : Int)))
    congr 2
    refine List.map_congr_left fun m _ => ?_
    by_cases e : m = n
    · rw [if_pos e, if_pos e] <;> rfl
    · rw [if_neg e, if_neg e]
  · exact h4 _ _ (Ne.symm n1) n5 lS (k1 _ (by simp) _ I.hS)
  · show H2 (l h) = some (.lst ((if h = hd then (aa h).set n ((st.cell n).count + 1 : Int) else aa h).map V.int))
    by_cases e : h = hd
    · rw [if_pos e, e, h3, List.map_set]
    · rw [if_neg e]
      have hm : l h ∈ [pV, pS, pR, l 0, l 1] := by
        have : h = 0 ∨ h = 1 := by omega
        rcases this with rfl | rfl <;> simp
      refine h4 _ _ ?_ ?_ ?_ (k1 _ hm _ (I.hL h hh'))
      · have : h = 0 ∨ h = 1 := by omega
        rcases this with rfl | rfl
        · exact Ne.symm n3
        · exact Ne.symm n4
      · have : h = 0 ∨ h = 1 := by omega
        rcases this with rfl | rfl
        · exact Ne.symm n8
        · exact Ne.symm n9
      · have : (h = 0 ∧ hd = 1) ∨ (h = 1 ∧ hd = 0) := by omega
        rcases this with ⟨rfl, rfl⟩ | ⟨rfl, rfl⟩
        · exact n10
        · exact Ne.symm n10
  · show (if h = hd then (aa h).set n ((st.cell n).count + 1 : Int) else aa h).length = many
    split
    · rw [List.length_set]; exact I.nL h hh'
    · exact I.nL h hh'
  · have hx : x ∈ (if h = hd then (aa h).set n ((st.cell n).count + 1 : Int) else aa h) := hx
    have hc := (I.pl n hn).2.2
    split at hx
    · rcases List.mem_or_eq_of_mem_set hx with hx | hx
      · have := I.bL h hh' x hx
        omega
      · omega
    · have := I.bL h hh' x hx
      omega
  · have := dpAll_set hv n (dpAll_ex f.xd _ _ I.dR)
    rw [set_range] at this
    have e : ((List.range many).map fun k => if k = n then encS src else encS (st.cell k).src) = (List.range many).map fun m => encS (if m = n then chC (st.cell n) src else st.cell m).src := by
      refine List.map_congr_left fun m _ => ?_
      by_cases e : m = n
      · rw [if_pos e, if_pos e] <;> rfl
      · rw [if_neg e, if_neg e]
    rw [e] at this
    exact this
end
theorem s_ifP {σ : L2.St} {H H0 : Hp} {t : TT} {tu tw : TS} {D : Ends} {b : Bool} (P : L2.St → Hp → Prop) (fin : ∀ σ H, P σ H → D.nx σ H) (h : EvT t σ H0 b) (x : Ex H0 H) (k1 : b = true → (∀ σ H, P σ H → D.nx σ H) → ∀ H1, Ex H H1 → tu D σ H1) (k2 : b = false → (∀ σ H, P σ H → D.nx σ H) → ∀ H1, Ex H H1 → tw D σ H1) : tIfS t tu tw D σ H := s_ifD h x (fun e => k1 e fin) fun e => k2 e fin
section
variable {K : Frag} {T : NbC} {M M' : Addr → Prop} {B B' H H' : Hp} {nb : Addr} {st : NbS} {many lm n hd : Nat} {pV pS pR : Addr} {l : Nat → Addr} {aa : Nat → List Int} {vs : List V} {σ : L2.St} {sv : Int}
theorem I14.fr (I : I14 K T M B H nb st many lm pV pS pR l aa vs) (f : Fr M M' B H H' B') (hN : NB K T M' B' H' nb st) : I14 K T M' B' H' nb st many lm pV pS pR l aa vs := by
  have k1 : ∀ p ∈ [pV, pS, pR, l 0, l 1], ∀ o, H p = some o → H' p = some o := fun p hp o h => f.fr p o h (I.o p hp).2
  refine ⟨hN, I.G, I.row, I.pl, k1 _ (by simp) _ I.hV, k1 _ (by simp) _ I.hS, fun h hh => k1 _ ?_ _ (I.hL h hh), I.nL, I.bL, k1 _ (by simp) _ I.hR, dpAll_ex f.xd _ _ I.dR, fun p hp => ⟨f.nw p (I.o p hp).1 (I.there p hp), fun z => ?_⟩, I.nd⟩
  · have : h = 0 ∨ h = 1 := by omega
    rcases this with rfl | rfl <;> simp
  · rcases f.mm p z with z | z
    · exact (I.o p hp).2 z
    · exact I.there p hp z
theorem two_at (hd2 : hd < 2) : ([V.ref (l 0), V.ref (l 1)] : List V)[hd]? = some (V.ref (l hd)) := by
  have : hd = 0 ∨ hd = 1 := by omega
  rcases this with rfl | rfl <;> rfl
theorem I14.seenE (I : I14 K T M B H nb st many lm pV pS pR l aa vs) (hd2 : hd < 2) (hsv : (aa hd)[n]? = some sv) (h1 : σ[6]? = some (some (V.ref pS)) := by rfl) (h2 : σ[8]? = some (some (V.int (hd : Int))) := by rfl) (h3 : σ[9]? = some (some (V.int (n : Int))) := by rfl) : Ev (tOp (rIx K) (tOp (rIx K) (tVar 6) (tVar 8)) (tVar 9)) σ H (.int sv) :=
  ev_ixV (ev_ixV (ev_var h1) (ev_var h2) I.hS (two_at hd2)) (ev_var h3) (I.hL hd hd2) (by rw [List.getElem?_map, hsv]; rfl)
theorem I14.verE (I : I14 K T M B H nb st many lm pV pS pR l aa vs) (hn : n < many) (h1 : σ[5]? = some (some (V.ref pV)) := by rfl) (h3 : σ[9]? = some (some (V.int (n : Int))) := by rfl) : Ev (tOp (rIx K) (tVar 5) (tVar 9)) σ H (.int ((st.cell n).count : Int)) :=
  ev_ixV (ev_var h1) (ev_var h3) I.hV (by rw [List.getElem?_map, List.getElem?_range hn]; rfl)
end
theorem rep_flat (d : PyData) : ∀ n : Nat, (List.replicate n [d]).flatten = (List.range n).map fun _ => d
  | 0 => rfl
  | n + 1 => by
    rw [List.range_succ, List.map_append, ← rep_flat d n, List.replicate_succ', List.flatten_append]
    rfl
end LC
/-! The text by places: printed by gen.py -/
namespace K14
open PySem PySem.Spec PyProof.Rows L2
def top (i : Nat) : Stmt := PySem.Challenge.pw_leancells_k14_hands.main.body.getD i (.Pass ⟨0, 0, 0, 0⟩)
abbrev s_wall : Stmt := top 0
abbrev s_is_within : Stmt := top 16
abbrev s_is_name : Stmt := top 17
abbrev s_is_sum : Stmt := top 18
abbrev s_is_row : Stmt := top 19
abbrev s_is_source : Stmt := top 20
abbrev s_look : Stmt := top 21
abbrev s_sets_of : Stmt := top 22
abbrev s_Failed_init : Stmt := inClass (top 24) 0
abbrev s_reckoned : Stmt := top 25
abbrev s_worth : Stmt := top 26
abbrev s_done : Stmt := top 27
abbrev s_Record_init : Stmt := inClass (top 30) 0
abbrev s_Cell_init : Stmt := inClass (top 31) 0
abbrev s_Notebook_init : Stmt := inClass (top 32) 0
abbrev s_Notebook_look_cell : Stmt := inClass (top 32) 1
abbrev s_Notebook_look_live : Stmt := inClass (top 32) 2
abbrev s_Notebook_look_place : Stmt := inClass (top 32) 3
abbrev s_Notebook_put : Stmt := inClass (top 32) 4
abbrev s_Notebook_change : Stmt := inClass (top 32) 5
abbrev s_Notebook_move : Stmt := inClass (top 32) 6
abbrev s_Notebook_drop : Stmt := inClass (top 32) 7
abbrev s_Notebook_strike : Stmt := inClass (top 32) 8
abbrev s_Notebook_cut : Stmt := inClass (top 32) 9
abbrev s_Notebook_join : Stmt := inClass (top 32) 10
abbrev s_Notebook_setter : Stmt := inClass (top 32) 11
abbrev s_Notebook_holds : Stmt := inClass (top 32) 12
abbrev s_Notebook_last_told : Stmt := inClass (top 32) 13
abbrev s_Notebook_fresh : Stmt := inClass (top 32) 14
abbrev s_Notebook_state : Stmt := inClass (top 32) 15
abbrev s_Notebook_demand : Stmt := inClass (top 32) 16
abbrev s_Notebook_stands : Stmt := inClass (top 32) 17
abbrev s_Notebook_told : Stmt := inClass (top 32) 18
abbrev s_Notebook_asker : Stmt := inClass (top 32) 19
abbrev s_Notebook_run : Stmt := inClass (top 32) 20
abbrev s_Notebook_run_all : Stmt := inClass (top 32) 21
abbrev s_Notebook_numbers : Stmt := inClass (top 32) 22
abbrev s_Notebook_source : Stmt := inClass (top 32) 23
abbrev s_Notebook_version : Stmt := inClass (top 32) 24
abbrev s_Notebook_view : Stmt := inClass (top 32) 25
abbrev s_Notebook_leans : Stmt := inClass (top 32) 26
abbrev s_law_cell : Stmt := top 34
abbrev s_law_seed : Stmt := top 35
abbrev s_law_pick : Stmt := top 36
abbrev s_law_sum : Stmt := top 37
abbrev s_law_source : Stmt := top 38
abbrev s_law : Stmt := top 39
/-! The head: facts by names, the run of the top -/
def d_is_within : He.DefD := ⟨("is_within", none), "is_within", "is_within", defArgs s_is_within, defBody s_is_within, defScope s_is_within, [], []⟩
def d_is_name : He.DefD := ⟨("is_name", none), "is_name", "is_name", defArgs s_is_name, defBody s_is_name, defScope s_is_name, [], []⟩
def d_is_sum : He.DefD := ⟨("is_sum", none), "is_sum", "is_sum", defArgs s_is_sum, defBody s_is_sum, defScope s_is_sum, [], []⟩
def d_is_row : He.DefD := ⟨("is_row", none), "is_row", "is_row", defArgs s_is_row, defBody s_is_row, defScope s_is_row, [], []⟩
def d_is_source : He.DefD := ⟨("is_source", none), "is_source", "is_source", defArgs s_is_source, defBody s_is_source, defScope s_is_source, [], []⟩
def d_look : He.DefD := ⟨("look", none), "look", "look", defArgs s_look, defBody s_look, defScope s_look, [], []⟩
def d_Cell_init : He.DefD := ⟨("Cell", some "__init__"), "__init__", "Cell.__init__", defArgs s_Cell_init, defBody s_Cell_init, defScope s_Cell_init, [], []⟩
def d_Notebook_init : He.DefD := ⟨("Notebook", some "__init__"), "__init__", "Notebook.__init__", defArgs s_Notebook_init, defBody s_Notebook_init, defScope s_Notebook_init, [], []⟩
def d_Notebook_look_cell : He.DefD := ⟨("Notebook", some "look_cell"), "look_cell", "Notebook.look_cell", defArgs s_Notebook_look_cell, defBody s_Notebook_look_cell, defScope s_Notebook_look_cell, [], []⟩
def d_Notebook_look_place : He.DefD := ⟨("Notebook", some "look_place"), "look_place", "Notebook.look_place", defArgs s_Notebook_look_place, defBody s_Notebook_look_place, defScope s_Notebook_look_place, [], []⟩
def d_Notebook_put : He.DefD := ⟨("Notebook", some "put"), "put", "Notebook.put", defArgs s_Notebook_put, defBody s_Notebook_put, defScope s_Notebook_put, [], []⟩
def d_Notebook_change : He.DefD := ⟨("Notebook", some "change"), "change", "Notebook.change", defArgs s_Notebook_change, defBody s_Notebook_change, defScope s_Notebook_change, [], []⟩
def d_Notebook_setter : He.DefD := ⟨("Notebook", some "setter"), "setter", "Notebook.setter", defArgs s_Notebook_setter, defBody s_Notebook_setter, defScope s_Notebook_setter, [], []⟩
def d_Notebook_holds : He.DefD := ⟨("Notebook", some "holds"), "holds", "Notebook.holds", defArgs s_Notebook_holds, defBody s_Notebook_holds, defScope s_Notebook_holds, [], []⟩
def d_Notebook_last_told : He.DefD := ⟨("Notebook", some "last_told"), "last_told", "Notebook.last_told", defArgs s_Notebook_last_told, defBody s_Notebook_last_told, defScope s_Notebook_last_told, [], []⟩
def d_Notebook_fresh : He.DefD := ⟨("Notebook", some "fresh"), "fresh", "Notebook.fresh", defArgs s_Notebook_fresh, defBody s_Notebook_fresh, defScope s_Notebook_fresh, [], []⟩
def d_Notebook_state : He.DefD := ⟨("Notebook", some "state"), "state", "Notebook.state", defArgs s_Notebook_state, defBody s_Notebook_state, defScope s_Notebook_state, [], []⟩
def d_Notebook_source : He.DefD := ⟨("Notebook", some "source"), "source", "Notebook.source", defArgs s_Notebook_source, defBody s_Notebook_source, defScope s_Notebook_source, [], []⟩
def d_Notebook_version : He.DefD := ⟨("Notebook", some "version"), "version", "Notebook.version", defArgs s_Notebook_version, defBody s_Notebook_version, defScope s_Notebook_version, [], []⟩
def d_law_cell : He.DefD := ⟨("_law_cell", none), "_law_cell", "_law_cell", defArgs s_law_cell, defBody s_law_cell, defScope s_law_cell, [], []⟩
def d_law_seed : He.DefD := ⟨("_law_seed", none), "_law_seed", "_law_seed", defArgs s_law_seed, defBody s_law_seed, defScope s_law_seed, [], []⟩
def d_law_pick : He.DefD := ⟨("_law_pick", none), "_law_pick", "_law_pick", defArgs s_law_pick, defBody s_law_pick, defScope s_law_pick, [], []⟩
def d_law_sum : He.DefD := ⟨("_law_sum", none), "_law_sum", "_law_sum", defArgs s_law_sum, defBody s_law_sum, defScope s_law_sum, [], []⟩
def d_law_source : He.DefD := ⟨("_law_source", none), "_law_source", "_law_source", defArgs s_law_source, defBody s_law_source, defScope s_law_source, [], []⟩
def d_law : He.DefD := ⟨("law", none), "law", "law", defArgs s_law, defBody s_law, defScope s_law, [], []⟩
def fnL : List He.DefD := [d_is_within, d_is_name, d_is_sum, d_is_row, d_is_source, d_look, d_Cell_init, d_Notebook_init, d_Notebook_look_cell, d_Notebook_look_place, d_Notebook_put, d_Notebook_change, d_Notebook_setter, d_Notebook_holds, d_Notebook_last_told, d_Notebook_fresh, d_Notebook_state, d_Notebook_source, d_Notebook_version, d_law_cell, d_law_seed, d_law_pick, d_law_sum, d_law_source, d_law]
def faL : List He.Fa := [.glo "_wall", .glo "is_within", .glo "is_name", .glo "is_sum", .glo "is_row", .glo "is_source", .glo "look", .glo "sets_of", .glo "reckoned", .glo "worth", .glo "done", .glo "_law_cell", .glo "_law_seed", .glo "_law_pick", .glo "_law_sum", .glo "_law_source", .glo "law", .glo "Record", .cls "Record", .noat "Record" "lines", .noat "Record" "asked", .noat "Record" "shown", .noat "Record" "sets", .noat "Record" "why", .glo "Cell", .cls "Cell", .noat "Cell" "lines", .noat "Cell" "count", .noat "Cell" "struck", .noat "Cell" "record", .glo "Notebook", .cls "Notebook", .noat "Notebook" "cells", .noat "Notebook" "row", .noat "Notebook" "after", .mkr "Cell", .mkr "Notebook", .meth "Notebook" "look_cell", .meth "Notebook" "look_place", .meth "Notebook" "put", .meth "Notebook" "change", .meth "Notebook" "setter", .meth "Notebook" "holds", .meth "Notebook" "last_told", .meth "Notebook" "fresh", .meth "Notebook" "state", .meth "Notebook" "source", .meth "Notebook" "version", .glo "LeanError", .exc "LeanError", .glo "BadSource", .exc "BadSource", .glo "BadNumber", .exc "BadNumber", .glo "NoCell", .exc "NoCell", .glo "Struck", .exc "Struck", .glo "Behind", .exc "Behind", .glo "Full", .exc "Full", .str "__name__" "law_leancells_k14_hands", .str "SMALL" "abcdefghijklmnopqrstuvwxyz", .int "ROUND" 10000, .int "MOST_ROWS" 8, .int "MOST_DEEP" 6, .glo "WORDS", .glo "BARRED", .int "MOST_CELLS" 30, .free "len", .free "isinstance", .free "range", .free "tuple", .free "sorted", .free "set", .free "int", .free "str", .free "bool", .free "list", .free "min", .free "zip", .free "enumerate", .free "dict", .free "ValueError", .exm "Behind" "Behind" true]
def exB (K : PySem.W.Frag) : Bool := He.tupB K "WORDS" [.str "add", .str "less", .str "times", .str "over", .str "same"] && He.tupB K "BARRED" [.str "add", .str "less", .str "times", .str "over", .str "same", .str "if", .str "set", .str "show"] && true
abbrev R : PySem.W.OpenRow := PySem.W.OpenLaw.row PySem.Challenge.rw_leancells_k14_hands
abbrev hk : PySem.W.Hook := He.hookX 7 faL fnL [] [] exB
def ob (s : PySem.W.SharedT) : He.AlX := He.obsX 7 faL fnL [] [] exB (HandSHeadRun.getT s)
theorem ob_eq (s : PySem.W.SharedT) : ob s = hk.obs s.abs := He.obsX_eq (HandSHeadRun.getT_eq s)
def loose0 : List PySem.Str := ["_wall", "LeanError", "BadSource", "BadNumber", "NoCell", "Struck", "Behind", "Full", "SMALL", "ROUND", "MOST_ROWS", "MOST_DEEP", "WORDS", "BARRED", "is_within", "is_name", "is_sum", "is_row", "is_source", "look", "sets_of", "Failed", "reckoned", "worth", "done", "MOST_CELLS", "Record", "Cell", "Notebook", "_law_cell"]
def loose1 : List PySem.Str := ["_law_seed", "_law_pick", "_law_sum", "_law_source"]
def looseL : List PySem.Str := loose0 ++ loose1
theorem run (w : World) : HandSHeadRun.RunEq R (PySem.W.view R.prog [39]) hk ob 6000 looseL w := by
  intro os
  kernel_rfl
open LC Evl
section
variable {P : Program} {w : World} {K : PySem.W.Frag} {mg : Str → Option Value} {base : Heap}
theorem sc_is_within : FnScope ["thing", "low", "high"] ["thing", "low", "high"] (defScope s_is_within) := ⟨rfl, rfl, rfl, by decide +kernel, rfl, by decide +kernel, by decide +kernel⟩
theorem ok_is_within {f : Addr} {fd : FuncData} (F : FnP K "is_within" "is_within" s_is_within f fd) (g : mg "is_within" = some (.ref f)) (T : Tx mg)  : Has P w K mg base CX0 1 "is_within" ["thing", "low", "high"] (spD K F_is_within) := by
  have nd := (sc_is_within).nd
  refine has_d (FF := F_is_within) F g (F.bindsN fun _ _ _ _ _ _ us hl => match us, hl with | [_, _, _], _ => rfl) sc_is_within (by rintro _ _ ⟨_, _, _, rfl, _⟩; rfl) (fun cdv A outer s H vs Q E ds d H0 hr x hd hf k => ?_)
  obtain ⟨a, lo, hi, rfl, rfl⟩ := hf
  obtain ⟨v0, v1, v2, rfl, d0, d1, d2⟩ := dts3 hd
  refine ⟨_, (pss_one (ps_ret (pe_and (pe_callB (kIsi (K := K) rfl) rfl (T.free (by decide)) boot_isinstance (pa_cons (pv 0) (pa_cons (pe_bltn (v := .ty "int") rfl (T.free (by decide)) boot_int rfl) pa_nil))) (pe_and (kNot (K := K) rfl (pe_callB (kIsi (K := K) rfl) rfl (T.free (by decide)) boot_isinstance (pa_cons (pv 0) (pa_cons (pe_bltn (v := .ty "bool") rfl (T.free (by decide)) boot_bool rfl) pa_nil)))) (pe_one (pe_chain op_le op_le (pv 1) (pv 0) (pv 2))))))), ?_⟩
  refine s_retD (d := .bool (isWithin a lo hi)) (evd_is (d := .bool (isT a "int" && (!isT a "bool" && isWithin a lo hi))) (evd_b (ev_andV (ev_isi (evd_var d0) (by decide)) fun e1 => ev_andV (ev_notB (ev_isi (evd_var d0) (by decide))) fun e2 => ?_)) (congrArg PyData.bool (within_eq a lo hi))) x k
  obtain ⟨i, rfl⟩ : ∃ i, a = .int i := by
    cases a <;> simp [isT, tyN] at e1 e2
    exact ⟨_, rfl⟩
  exact ev_chain (K := K) (p := fun i j => decide (i ≤ j)) (q := fun i j => decide (i ≤ j)) (evd_var d1) (evd_var d0) (evd_var d2)
theorem sc_is_name : FnScope ["thing", "sign"] ["thing"] (defScope s_is_name) := ⟨rfl, rfl, rfl, by decide +kernel, rfl, by decide +kernel, by decide +kernel⟩
theorem ok_is_name {f : Addr} {fd : FuncData} (F : FnP K "is_name" "is_name" s_is_name f fd) (g : mg "is_name" = some (.ref f)) (T : Tx mg) (m_SMALL : ∃ t, mg "SMALL" = some (.str smallS t)) {a_BARRED : Addr} (m_BARRED : mg "BARRED" = some (.ref a_BARRED)) (b_BARRED : ∀ H, Dt K H (.ref a_BARRED) (.tuple (barredS.map PyData.str))) : Has P w K mg base CX0 1 "is_name" ["thing"] (spD K F_is_name) := by
  have nd := (sc_is_name).nd
  refine has_d (FF := F_is_name) F g (F.bindsN fun _ _ _ _ _ _ us hl => match us, hl with | [_], _ => rfl) sc_is_name (by rintro _ _ ⟨_, rfl, _⟩; rfl) (fun cdv A outer s H vs Q E ds d H0 hr x hd hf k => ?_)
  obtain ⟨a, rfl, ok, rfl⟩ := hf
  obtain ⟨v0, rfl, d0⟩ := dts1 hd
  refine ⟨_, (pss_cons (ps_if (PW.pt (pw_or (pt_not (kTruth (K := K) rfl (pe_callB (kIsi (K := K) rfl) rfl (T.free (by decide)) boot_isinstance (pa_cons (pv 0) (pa_cons (pe_bltn (v := .ty "str") rfl (T.free (by decide)) boot_str rfl) pa_nil))))) (pw_or (pt_not (pt_chain op_le op_le pe_int (pe_callB (kLen (K := K) rfl) rfl (T.free (by decide)) boot_len (pa_cons (pv 0) pa_nil)) pe_int)) (pw_or1 (pt_cmpR (kIn (K := K) rfl) (pv 0) (pe_gref m_BARRED) rfl))))) (pss_one (ps_ret pe_bl)) pss_nil)
      (pss_one (ps_ret (kNot (K := K) rfl (pe_lc (own := [("sign", 1)]) rfl nd (kSeq (K := K) rfl (pv 0)) (blkOk_by (N := ["thing", "sign"]) (sc := defScope s_is_name) (own := [("sign", 1)]) (by decide +kernel)) (fun _ _ _ _ _ => (pg_name (i := 1) nd rfl (Or.inl rfl))) (fun _ _ _ _ _ => (pts_one (pt_cmpR (kNotIn (K := K) rfl) (pv 1) (pe_gstr m_SMALL) rfl))) (fun _ _ _ _ _ => (pv 1))))))), ?_⟩
  cases hT : isT a "str" with
  | false =>
    refine s_ifD (b := true) (et_or (a := true) (b := true) (et_not (a := false) (et_is (et_b (ev_isi (evd_var d0) (by decide))) hT)) fun z => nomatch z) x (fun _ H1 e1 => ?_) fun z => nomatch z
    refine s_retD (evd_is evd_bl ?_) (x.trans e1) fun v H2 Hd g => k v H2 Hd (g.after e1)
    cases a <;> first | rfl | simp [isT, tyN] at hT
  | true =>
    obtain ⟨z, rfl⟩ := isT_str hT
    have hz := ok_str ok
    have hB : ∀ H1, Dt K H1 (.ref a_BARRED) (.tuple (barredS.map PyData.str)) := fun H1 => b_BARRED H1
    refine s_ifD (b := !(decide ((1 : Int) ≤ (z.length : Int)) && decide ((z.length : Int) ≤ 4)) || decide (z ∈ barredS)) (et_or (a := false) (et_not (a := true) (et_is (et_b (ev_isi (evd_var d0) (by decide))) hT)) fun _ => et_or (et_not (et_chain (K := K) (p := fun i j => decide (i ≤ j)) (q := fun i j => decide (i ≤ j)) evd_int (evd_i (ev_lenS (evd_var d0) (sz_of hz))) evd_int))
      fun _ => et_is (et_test (ev_inT (neg := false) (evd_var d0) (evd_ref (hB _)) rfl (flat_strs _))) (by simp [inD_str])) x (fun hb H1 e1 => ?_) fun hb H1 e1 => ?_
    · refine s_retD (evd_is evd_bl ?_) (x.trans e1) fun v H2 Hd g => k v H2 Hd (g.after e1)
      refine congrArg PyData.bool (Eq.symm ?_)
      show nameS z = false
      unfold nameS
      rw [Bool.or_eq_true] at hb
      rcases hb with hb | hb
      · have q : (decide (1 ≤ z.length) && decide (z.length ≤ 4)) = false := by
          rw [Bool.not_eq_true', Bool.and_eq_false_iff] at hb
          rw [Bool.and_eq_false_iff]
          simp only [decide_eq_false_iff_not] at hb ⊢
          omega
        rw [q, Bool.false_and]
      · rw [hb]
        simp
    · rw [Bool.or_eq_false_iff, Bool.not_eq_false'] at hb
      have hl : (decide (1 ≤ z.length) && decide (z.length ≤ 4)) = true := by
        have := hb.1
        rw [Bool.and_eq_true] at this ⊢
        simp only [decide_eq_true_eq] at this ⊢
        omega
      have hl4 : z.length ≤ 4 := by
        rw [Bool.and_eq_true] at hl
        exact of_decide_eq_true hl.2
      refine s_retD (d := .bool (nameS z)) (evd_is (evd_b (ev_notD (evd_lcS (fun c => !decide (c ∈ smallS.cps.toList)) (fun c => .str ⟨#[c]⟩) (evd_var d0) (by omega) (fun _ => rfl) (fun c H1 _ _ => et_test (ev_inS (neg := true) (evd_var (.str _)) (evd_str (x := smallS)))) fun c H1 _ _ _ => evd_var (.str _)) (ok_lst_of ?_))) (congrArg PyData.bool ?_)) (x.trans e1) fun v H2 Hd g => k v H2 Hd (g.after e1)
      · intro d hd
        obtain ⟨c, hc, rfl⟩ := List.mem_map.mp hd
        exact ok_sign ok (List.mem_filter.mp hc).1
      · unfold nameS
        rw [hl, hb.2, Bool.true_and, Bool.not_false, Bool.true_and]
        show (!(!(List.map _ _).isEmpty)) = _
        rw [Bool.not_not, List.isEmpty_map, Bool.eq_iff_iff, List.isEmpty_iff, List.filter_eq_nil_iff, List.all_eq_true]
        simp
theorem sc_is_sum : FnScope ["thing", "deep", "part"] ["thing", "deep"] (defScope s_is_sum) := ⟨rfl, rfl, rfl, by decide +kernel, rfl, by decide +kernel, by decide +kernel⟩
theorem step_is_sum {f : Addr} {fd : FuncData} (F : FnP K "is_sum" "is_sum" s_is_sum f fd) (g : mg "is_sum" = some (.ref f)) (T : Tx mg) (n : Nat) {a_WORDS : Addr} (m_WORDS : mg "WORDS" = some (.ref a_WORDS)) (b_WORDS : ∀ H, Dt K H (.ref a_WORDS) (.tuple (wordsS.map PyData.str))) (h_is_sum : Has P w K mg base CX0 (n + 1) "is_sum" ["thing", "deep"] (spD K (Fprev F_is_sum n))) (h_is_within : Has P w K mg base CX0 1 "is_within" ["thing", "low", "high"] (spD K F_is_within)) (m_ROUND : ∃ t, mg "ROUND" = some (.int 10000 t)) (h_is_name : Has P w K mg base CX0 1 "is_name" ["thing"] (spD K F_is_name)) : HasF P w K mg base CX0 (n + 2) "is_sum" ["thing", "deep"] (spD K (F_is_sum n)) f fd := by
  have nd := (sc_is_sum).nd
  refine hasF_d (FF := F_is_sum n) F g (F.bindsN fun _ _ _ _ _ _ us hl => match us, hl with | [_, _], _ => rfl) sc_is_sum (by rintro _ _ ⟨_, rfl, _⟩; rfl) (fun cdv A outer s H vs Q E ds d H0 hr x hd hf k => ?_)
  obtain ⟨a, rfl, ok, rfl⟩ := hf
  obtain ⟨v0, v1, rfl, d0, d1⟩ := dts2 hd
  refine ⟨_, (pss_cons (ps_if (kTruth (K := K) rfl (pe_callB (kIsi (K := K) rfl) rfl (T.free (by decide)) boot_isinstance (pa_cons (pv 0) (pa_cons (pe_bltn (v := .ty "str") rfl (T.free (by decide)) boot_str rfl) pa_nil)))) (pss_one (ps_ret (pe_has h_is_name hr (by omega) rfl pass0 (pa_cons (pv 0) pa_nil)))) pss_nil)
      (pss_cons (ps_if (pt_not (kTruth (K := K) rfl (pe_callB (kIsi (K := K) rfl) rfl (T.free (by decide)) boot_isinstance (pa_cons (pv 0) (pa_cons (pe_bltn (v := .ty "tuple") rfl (T.free (by decide)) boot_tuple rfl) pa_nil))))) (pss_one (ps_ret (pe_has h_is_within hr (by omega) rfl pass0 (pa_cons (pv 0) (pa_cons pe_int (pa_cons (pe_op op_sub (pe_gint m_ROUND) pe_int) pa_nil)))))) pss_nil)
      (pss_cons (ps_if (PW.pt (pw_or (pt_cmpR op_lt (pv 1) pe_int (nomark _)) (pw_or (pt_not (kTruth (K := K) rfl (pv 0))) (pw_or1 (pt_not (kTruth (K := K) rfl (pe_callB (kIsi (K := K) rfl) rfl (T.free (by decide)) boot_isinstance (pa_cons (pe_ix (kIx (K := K) rfl) (pv 0) pe_int (fun _ _ => rfl)) (pa_cons (pe_bltn (v := .ty "str") rfl (T.free (by decide)) boot_str rfl) pa_nil))))))))) (pss_one (ps_ret pe_bl)) pss_nil)
      (pss_cons (ps_if (PW.pt (pw_or (PW.pt (pw_and (pt_cmpR (kIn (K := K) rfl) (pe_ix (kIx (K := K) rfl) (pv 0) pe_int (fun _ _ => rfl)) (pe_gref m_WORDS) rfl) (pw_and1 (pt_cmpR (kEq (K := K) rfl hr.units) (pe_callB (kLen (K := K) rfl) rfl (T.free (by decide)) boot_len (pa_cons (pv 0) pa_nil)) pe_int (nomark _))))) (pw_or1 (PW.pt (pw_and (pt_cmpR (kEq (K := K) rfl hr.units) (pe_ix (kIx (K := K) rfl) (pv 0) pe_int (fun _ _ => rfl)) pe_str (nomark _)) (pw_and1 (pt_cmpR (kEq (K := K) rfl hr.units) (pe_callB (kLen (K := K) rfl) rfl (T.free (by decide)) boot_len (pa_cons (pv 0) pa_nil)) pe_int (nomark _)))))))) (pss_one (ps_ret (kNot (K := K) rfl (pe_lc (own := [("part", 2)]) rfl nd (kSeq (K := K) rfl (pe_slice (kSl (K := K) rfl) (pv 0) (po_some pe_int) po_none)) (blkOk_by (N := ["thing", "deep", "part"]) (sc := defScope s_is_sum) (own := [("part", 2)]) (by decide +kernel)) (fun _ _ _ _ _ => (pg_name (i := 2) nd rfl (Or.inl rfl))) (fun _ _ _ _ _ => (pts_one (pt_not (kTruth (K := K) rfl (pe_has h_is_sum hr (by omega) rfl pass0 (pa_cons (pv 2) (pa_cons (pe_op op_sub (pv 1) pe_int) pa_nil))))))) (fun _ _ _ _ _ => (pv 2)))))) pss_nil)
      (pss_one (ps_ret pe_bl)))))), ?_⟩
  have k : Rt K H0 H (.bool (isSum n a)) Q := k
  cases hS : isT a "str" with
  | true =>
    refine s_yes (et_is (et_b (ev_isi (evd_var d0) (by decide))) hS) x fun H1 e1 => ?_
    refine (k.go e1).ret (x.trans e1) (evd_call (eds_cons (evd_var d0) eds_nil) ⟨_, rfl, ok, rfl⟩) ?_
    obtain ⟨z, rfl⟩ := isT_str hS
    cases n <;> rfl
  | false =>
    refine s_nay (et_is (et_b (ev_isi (evd_var d0) (by decide))) hS) x fun H1 e1 => ?_
    cases hT : isT a "tuple" with
    | false =>
      refine s_yes (et_not (a := false) (et_is (et_b (ev_isi (evd_var d0) (by decide))) hT)) (x.trans e1) fun H2 e2 => ?_
      refine ((k.go e1).go e2).ret ((x.trans e1).trans e2) (evd_call (eds_cons (evd_var d0) (eds_cons evd_int (eds_cons (evd_i (ev_I0 (K := K) evd_int evd_int)) eds_nil))) ⟨_, _, _, rfl, rfl⟩) ?_
      rw [isSum_nontup hS hT]
      rfl
    | true =>
      refine s_nay (et_not (a := true) (et_is (et_b (ev_isi (evd_var d0) (by decide))) hT)) (x.trans e1) fun H2 e2 => ?_
      obtain ⟨ds, rfl⟩ := isT_tup hT
      have x2 := (x.trans e1).trans e2
      have k2 := (k.go e1).go e2
      have no : ∀ {H3 : Hp}, Ex H2 H3 → isSum n (.tuple ds) = false → tRet (tC (.bl false)) { nx := fun _ H' => Q .non H', rt := Q } (start ["thing", "deep", "part"] [v0, v1]) H3 := fun e3 z => (k2.go e3).ret (x2.trans e3) evd_bl (congrArg PyData.bool z.symm)
      cases n with
      | zero =>
        refine s_yes (et_or (a := true) (b := true) (et_test (ev_is (ev_I0 (K := K) (evd_var d1) evd_int) rfl)) fun z => nomatch z) x2 fun H3 e3 => no e3 (by simp [isSum])
      | succ m =>
        have t1 : EvT (tTest (tOp (rI0 fun i j => V.bl (decide (i < j))) (tVar 1) (tC (.int 1)))) (start ["thing", "deep", "part"] [v0, v1]) H0 false := et_test (ev_is (ev_I0 (K := K) (evd_var d1) evd_int) (by show V.bl (decide (((m + 1 : Nat) : Int) < 1)) = _; rw [decide_eq_false (by omega)]))
        cases ds with
        | nil =>
          refine s_yes (et_or (a := false) (b := true) t1 fun _ => et_or (a := true) (b := true) (et_not (a := false) (et_d (evd_var d0) ok)) fun z => nomatch z) x2 fun H3 e3 => no e3 ?_
          rfl
        | cons w r =>
          have i0 : EvD K (tOp (rIx K) (tVar 0) (tC (.int 0))) (start ["thing", "deep", "part"] [v0, v1]) H0 w := evd_ixT (evd_var d0) evd_int (atI_0 _ _)
          cases hw : isT w "str" with
          | false =>
            refine s_yes (et_or (a := false) (b := true) t1 fun _ => et_or (a := false) (b := true) (et_not (a := true) (et_d (evd_var d0) ok)) fun _ => et_not (a := false) (et_is (et_b (ev_isi i0 (by decide))) hw)) x2 fun H3 e3 => no e3 ?_
            cases w <;> first | rfl | simp [isT, tyN] at hw
          | true =>
            obtain ⟨z, rfl⟩ := isT_str hw
            refine s_nay (et_or (a := false) (b := false) t1 fun _ => et_or (a := false) (b := false) (et_not (a := true) (et_d (evd_var d0) ok)) fun _ => et_not (a := true) (et_is (et_b (ev_isi i0 (by decide))) hw)) x2 fun H3 e3 => ?_
            have okz : SeqAt.shaped (PyData.str z) = true := shapedS (ok_tup ok (List.mem_cons_self ..))
            have hW : ∀ H1, Dt K H1 (.ref a_WORDS) (.tuple (wordsS.map PyData.str)) := fun H1 => b_WORDS H1
            have len : ∀ q : Int, Ev (tOp (rEqD K) (tCB (rLenU K) (tCons (tVar 0) tNil)) (tC (.int q))) (start ["thing", "deep", "part"] [v0, v1]) H0 (.bl (((r.length + 1 : Nat) : Int) == q)) := fun q => ev_eq (evd_i (ev_lenT (evd_var d0))) evd_int rfl rfl
            refine s_ifD (b := sumHead z (r.length + 1)) (et_is (et_or (et_and (et_test (ev_inT (neg := false) i0 (evd_ref (hW _)) rfl (flat_strs _))) fun _ => et_test (len 3)) fun _ => et_and (et_test (ev_eq i0 evd_str okz (by decide +kernel))) fun _ => et_test (len 4)) ?_) (x2.trans e3) (fun hb H4 e4 => ?_) fun hb H4 e4 => ?_
            · unfold sumHead
              rw [show (if false = true then _ else inD (PyData.str z) (wordsS.map PyData.str)) = inD (PyData.str z) (wordsS.map PyData.str) from rfl, inD_str]
              have e3 : (((r.length + 1 : Nat) : Int) == 3) = (r.length + 1 == 3) := by rw [Bool.eq_iff_iff]; simp; omega
              have e4 : (((r.length + 1 : Nat) : Int) == 4) = (r.length + 1 == 4) := by rw [Bool.eq_iff_iff]; simp; omega
              rw [e3, e4]
              rfl
            · have hlen : r.length ≤ 3 := by
                unfold sumHead at hb
                simp at hb
                omega
              have sl : EvD K (tSl (rSlU K) (tVar 0) (tPart (tC (.int 1))) tNoPart) (start ["thing", "deep", "part"] [v0, v1]) H0 (.tuple r) := evd_is (evd_slT (evd_var d0) (eo_i (K := K) evd_int) eo_none) (congrArg PyData.tuple (cut_tail _ _))
              refine ((k2.go e3).go e4).ret ((x2.trans e3).trans e4) (evd_b (ev_notD (evd_lcT (fun d => !isSum m d) id sl (by omega) (fun _ => rfl) (fun v d H5 _ hm hv => et_not (et_b (ev_bl (evd_call (eds_cons (evd_var hv) (eds_cons (evd_i (ev_is (ev_I0 (K := K) (evd_var (d := .int ((m + 1 : Nat) : Int)) ?_) evd_int) ?_)) eds_nil)) ⟨d, rfl, ok_tup ok (List.mem_cons_of_mem _ hm), rfl⟩)))) fun v d H5 _ _ _ hv => evd_var hv) (ok_lst_of ?_))) (congrArg PyData.bool ?_)
              · exact dp_ex (by assumption) _ _ d1
              · show V.int (((m + 1 : Nat) : Int) - 1) = V.int (m : Int)
                congr 1
                omega
              · intro d hd
                rw [List.map_id] at hd
                exact ok_tup ok (List.mem_cons_of_mem _ (List.mem_filter.mp hd).1)
              · show (!(!(List.map id (r.filter fun d => !isSum m d)).isEmpty)) = (sumHead z (r.length + 1) && r.all (isSum m))
                rw [hb, Bool.true_and, Bool.not_not, List.isEmpty_map, Bool.eq_iff_iff, List.isEmpty_iff, List.filter_eq_nil_iff, List.all_eq_true]
                simp
            · refine no (e3.trans e4) ?_
              show (sumHead z (r.length + 1) && _) = false
              rw [hb, Bool.false_and]
theorem all_is_sum {f : Addr} {fd : FuncData} (F : FnP K "is_sum" "is_sum" s_is_sum f fd) (g : mg "is_sum" = some (.ref f)) (T : Tx mg) {a_WORDS : Addr} (m_WORDS : mg "WORDS" = some (.ref a_WORDS)) (b_WORDS : ∀ H, Dt K H (.ref a_WORDS) (.tuple (wordsS.map PyData.str)))  (h_is_within : Has P w K mg base CX0 1 "is_within" ["thing", "low", "high"] (spD K F_is_within)) (m_ROUND : ∃ t, mg "ROUND" = some (.int 10000 t)) (h_is_name : Has P w K mg base CX0 1 "is_name" ["thing"] (spD K F_is_name)) : ∀ n : Nat, HasF P w K mg base CX0 (n + 2) "is_sum" ["thing", "deep"] (spD K (F_is_sum n)) f fd
  | 0 => step_is_sum F g T 0 (h_is_sum := has_never F g (F.bindsN fun _ _ _ _ _ _ us hl => match us, hl with | [_, _], _ => rfl) _ fun _ _ z => z) (m_WORDS := m_WORDS) (b_WORDS := b_WORDS) (h_is_within := h_is_within) (m_ROUND := m_ROUND) (h_is_name := h_is_name)
  | n + 1 => step_is_sum F g T (n + 1) (h_is_sum := (all_is_sum F g T (m_WORDS := m_WORDS) (b_WORDS := b_WORDS) (h_is_within := h_is_within) (m_ROUND := m_ROUND) (h_is_name := h_is_name) n).has) (m_WORDS := m_WORDS) (b_WORDS := b_WORDS) (h_is_within := h_is_within) (m_ROUND := m_ROUND) (h_is_name := h_is_name)
theorem ok_is_sum {f : Addr} {fd : FuncData} (F : FnP K "is_sum" "is_sum" s_is_sum f fd) (g : mg "is_sum" = some (.ref f)) (T : Tx mg) {a_WORDS : Addr} (m_WORDS : mg "WORDS" = some (.ref a_WORDS)) (b_WORDS : ∀ H, Dt K H (.ref a_WORDS) (.tuple (wordsS.map PyData.str)))  (h_is_within : Has P w K mg base CX0 1 "is_within" ["thing", "low", "high"] (spD K F_is_within)) (m_ROUND : ∃ t, mg "ROUND" = some (.int 10000 t)) (h_is_name : Has P w K mg base CX0 1 "is_name" ["thing"] (spD K F_is_name)) : Has P w K mg base CX0 8 "is_sum" ["thing", "deep"] (spD K (F_is_sum 6)) :=
  (all_is_sum F g T (m_WORDS := m_WORDS) (b_WORDS := b_WORDS) (h_is_within := h_is_within) (m_ROUND := m_ROUND) (h_is_name := h_is_name) 6).has
theorem sc_is_row : FnScope ["thing"] ["thing"] (defScope s_is_row) := ⟨rfl, rfl, rfl, by decide +kernel, rfl, by decide +kernel, by decide +kernel⟩
theorem ok_is_row {f : Addr} {fd : FuncData} (F : FnP K "is_row" "is_row" s_is_row f fd) (g : mg "is_row" = some (.ref f)) (T : Tx mg) (h_is_sum : Has P w K mg base CX0 8 "is_sum" ["thing", "deep"] (spD K (F_is_sum 6))) (m_MOST_DEEP : ∃ t, mg "MOST_DEEP" = some (.int 6 t)) (h_is_name : Has P w K mg base CX0 1 "is_name" ["thing"] (spD K F_is_name)) : Has P w K mg base CX0 9 "is_row" ["thing"] (spD K F_is_row) := by
  have nd := (sc_is_row).nd
  refine has_d (FF := F_is_row) F g (F.bindsN fun _ _ _ _ _ _ us hl => match us, hl with | [_], _ => rfl) sc_is_row (by rintro _ _ ⟨_, rfl, _⟩; rfl) (fun cdv A outer s H vs Q E ds d H0 hr x hd hf k => ?_)
  obtain ⟨a, rfl, ok, rfl⟩ := hf
  obtain ⟨v0, rfl, d0⟩ := dts1 hd
  refine ⟨_, (pss_cons (ps_if (PW.pt (pw_or (pt_not (kTruth (K := K) rfl (pe_callB (kIsi (K := K) rfl) rfl (T.free (by decide)) boot_isinstance (pa_cons (pv 0) (pa_cons (pe_bltn (v := .ty "tuple") rfl (T.free (by decide)) boot_tuple rfl) pa_nil))))) (pw_or (pt_not (kTruth (K := K) rfl (pv 0))) (pw_or1 (pt_not (kTruth (K := K) rfl (pe_callB (kIsi (K := K) rfl) rfl (T.free (by decide)) boot_isinstance (pa_cons (pe_ix (kIx (K := K) rfl) (pv 0) pe_int (fun _ _ => rfl)) (pa_cons (pe_bltn (v := .ty "str") rfl (T.free (by decide)) boot_str rfl) pa_nil))))))))) (pss_one (ps_ret pe_bl)) pss_nil)
      (pss_cons (ps_if (pt_cmpR (kEq (K := K) rfl hr.units) (pe_ix (kIx (K := K) rfl) (pv 0) pe_int (fun _ _ => rfl)) pe_str (nomark _)) (pss_one (ps_ret (pe_and (pe_cmpR (kEq (K := K) rfl hr.units) (pe_callB (kLen (K := K) rfl) rfl (T.free (by decide)) boot_len (pa_cons (pv 0) pa_nil)) pe_int (nomark _)) (pe_one (pe_has h_is_sum hr (by omega) rfl pass0 (pa_cons (pe_ix (kIx (K := K) rfl) (pv 0) pe_int (fun _ _ => rfl)) (pa_cons (pe_gint m_MOST_DEEP) pa_nil))))))) pss_nil)
      (pss_one (ps_ret (pe_and (pe_cmpR (kEq (K := K) rfl hr.units) (pe_ix (kIx (K := K) rfl) (pv 0) pe_int (fun _ _ => rfl)) pe_str (nomark _)) (pe_and (pe_cmpR (kEq (K := K) rfl hr.units) (pe_callB (kLen (K := K) rfl) rfl (T.free (by decide)) boot_len (pa_cons (pv 0) pa_nil)) pe_int (nomark _)) (pe_and (pe_has h_is_name hr (by omega) rfl pass0 (pa_cons (pe_ix (kIx (K := K) rfl) (pv 0) pe_int (fun _ _ => rfl)) pa_nil)) (pe_one (pe_has h_is_sum hr (by omega) rfl pass0 (pa_cons (pe_ix (kIx (K := K) rfl) (pv 0) pe_int (fun _ _ => rfl)) (pa_cons (pe_gint m_MOST_DEEP) pa_nil))))))))))), ?_⟩
  have k : Rt K H0 H (.bool (isRow a)) Q := k
  have no : ∀ {H3 : Hp}, Ex H H3 → isRow a = false → tRet (tC (.bl false)) { nx := fun _ H' => Q .non H', rt := Q } (start ["thing"] [v0]) H3 := fun e3 z => (k.go e3).ret (x.trans e3) evd_bl (congrArg PyData.bool z.symm)
  cases hT : isT a "tuple" with
  | false =>
    refine s_yes (et_or (a := true) (b := true) (et_not (a := false) (et_is (et_b (ev_isi (evd_var d0) (by decide))) hT)) fun z => nomatch z) x fun H1 e1 => no e1 ?_
    cases a <;> first | rfl | simp [isT, tyN] at hT
  | true =>
    obtain ⟨ds, rfl⟩ := isT_tup hT
    cases ds with
    | nil =>
      refine s_yes (et_or (a := false) (b := true) (et_not (a := true) (et_is (et_b (ev_isi (evd_var d0) (by decide))) hT)) fun _ => et_or (a := true) (b := true) (et_not (a := false) (et_d (evd_var d0) ok)) fun z => nomatch z) x fun H1 e1 => no e1 rfl
    | cons w r =>
      have i0 : EvD K (tOp (rIx K) (tVar 0) (tC (.int 0))) (start ["thing"] [v0]) H0 w := evd_ixT (evd_var d0) evd_int (atI_0 _ _)
      cases hw : isT w "str" with
      | false =>
        refine s_yes (et_or (a := false) (b := true) (et_not (a := true) (et_is (et_b (ev_isi (evd_var d0) (by decide))) hT)) fun _ => et_or (a := false) (b := true) (et_not (a := true) (et_d (evd_var d0) ok)) fun _ => et_not (a := false) (et_is (et_b (ev_isi i0 (by decide))) hw)) x fun H1 e1 => no e1 ?_
        cases w <;> first | rfl | simp [isT, tyN] at hw
      | true =>
        obtain ⟨z, rfl⟩ := isT_str hw
        refine s_nay (et_or (a := false) (b := false) (et_not (a := true) (et_is (et_b (ev_isi (evd_var d0) (by decide))) hT)) fun _ => et_or (a := false) (b := false) (et_not (a := true) (et_d (evd_var d0) ok)) fun _ => et_not (a := true) (et_is (et_b (ev_isi i0 (by decide))) hw)) x fun H1 e1 => ?_
        have okz : SeqAt.shaped (PyData.str z) = true := shapedS (ok_tup ok (List.mem_cons_self ..))
        have len : ∀ q : Int, Ev (tOp (rEqD K) (tCB (rLenU K) (tCons (tVar 0) tNil)) (tC (.int q))) (start ["thing"] [v0]) H0 (.bl (((r.length + 1 : Nat) : Int) == q)) := fun q => ev_eq (evd_i (ev_lenT (evd_var d0))) evd_int rfl rfl
        refine s_ifD (b := decide (z = "show")) (et_is (et_test (ev_eq i0 evd_str okz (by decide +kernel))) ?_) (x.trans e1) (fun hb H2 e2 => ?_) fun hb H2 e2 => ?_
        · show (z == ("show" : Str)) = decide (z = "show")
          rw [Bool.eq_iff_iff]; simp
        · have ez : z = "show" := of_decide_eq_true hb
          subst ez
          cases hr2 : (((r.length + 1 : Nat) : Int) == 2) with
          | false =>
            refine ((k.go e1).go e2).ret ((x.trans e1).trans e2) (evd_b (ev_andV (a := false) (b := true) (ev_is (len 2) (by rw [hr2])) fun z => nomatch z)) (congrArg PyData.bool ?_)
            match r with
            | [] => rfl
            | [_] => simp at hr2
            | [b, c] => show (false && true) = (decide (("show" : Str) = "set") && (isName b && isSum 6 c)); rw [decide_eq_false (by decide +kernel)]; rfl
            | _ :: _ :: _ :: _ => rfl
          | true =>
            obtain ⟨b, rfl⟩ : ∃ b, r = [b] := by
              match r with
              | [] => simp at hr2
              | [b] => exact ⟨b, rfl⟩
              | _ :: _ :: _ => simp at hr2 <;> omega
            refine ((k.go e1).go e2).ret ((x.trans e1).trans e2) (evd_b (ev_andV (a := true) (b := isSum 6 b) (ev_is (len 2) (by rw [hr2])) fun _ => ev_bl (evd_call (eds_cons (evd_ixT (evd_var d0) evd_int (atI_1 _ _ _)) (eds_cons evd_int eds_nil)) ⟨b, rfl, ok_tup ok (by simp), rfl⟩))) (congrArg PyData.bool ?_)
            show (true && isSum 6 b) = (decide (("show" : Str) = "show") && isSum 6 b)
            rw [decide_eq_true rfl]
        · have nz : ¬ z = "show" := of_decide_eq_false hb
          cases hz : decide (z = "set") with
          | false =>
            refine ((k.go e1).go e2).ret ((x.trans e1).trans e2) (evd_b (ev_andV (a := false) (b := true) (ev_is (ev_eq i0 evd_str okz (by decide +kernel)) ?_) fun z => nomatch z)) (congrArg PyData.bool ?_)
            · show V.bl (z == ("set" : Str)) = V.bl false
              rw [← hz]; rfl
            · match r with
              | [] => rfl
              | [b] => show (false && true) = (decide (z = "show") && isSum 6 b); rw [hb]; rfl
              | [b, c] => show (false && true) = (decide (z = "set") && (isName b && isSum 6 c)); rw [hz]; rfl
              | _ :: _ :: _ :: _ => rfl
          | true =>
            have e0 : V.bl (PyData.eqv (.str z) (.str "set")) = V.bl true := by
              show V.bl (z == ("set" : Str)) = V.bl true
              rw [← hz]; rfl
            cases hr2 : (((r.length + 1 : Nat) : Int) == 3) with
            | false =>
              refine ((k.go e1).go e2).ret ((x.trans e1).trans e2) (evd_b (ev_andV (a := true) (b := false) (ev_is (ev_eq i0 evd_str okz (by decide +kernel)) e0) fun _ => ev_andV (a := false) (b := true) (ev_is (len 3) (by rw [hr2])) fun z => nomatch z)) (congrArg PyData.bool ?_)
              match r with
              | [] => rfl
              | [b] => show (true && (false && true)) = (decide (z = "show") && isSum 6 b); rw [hb]; rfl
              | [_, _] => simp at hr2
              | _ :: _ :: _ :: _ => rfl
            | true =>
              obtain ⟨b, c, rfl⟩ : ∃ b c, r = [b, c] := by
                match r with
                | [] => simp at hr2
                | [b] => simp at hr2
                | [b, c] => exact ⟨b, c, rfl⟩
                | _ :: _ :: _ :: _ => simp at hr2 <;> omega
              refine ((k.go e1).go e2).ret ((x.trans e1).trans e2) (evd_b (ev_andV (a := true) (b := isName b && isSum 6 c) (ev_is (ev_eq i0 evd_str okz (by decide +kernel)) e0) fun _ => ev_andV (a := true) (b := isName b && isSum 6 c) (ev_is (len 3) (by rw [hr2])) fun _ => ev_andV (ev_bl (evd_call (eds_cons (evd_ixT (evd_var d0) evd_int (atI_1 _ _ _)) eds_nil) ⟨b, rfl, ok_tup ok (by simp), rfl⟩)) fun _ =>
                ev_bl (evd_call (eds_cons (evd_ixT (evd_var d0) evd_int (atI_2 _ _ _ _)) (eds_cons evd_int eds_nil)) ⟨c, rfl, ok_tup ok (by simp), rfl⟩))) (congrArg PyData.bool ?_)
              show (true && (true && (isName b && isSum 6 c))) = (decide (z = "set") && (isName b && isSum 6 c))
              rw [hz]
              rfl
theorem sc_is_source : FnScope ["thing", "row"] ["thing"] (defScope s_is_source) := ⟨rfl, rfl, rfl, by decide +kernel, rfl, by decide +kernel, by decide +kernel⟩
theorem ok_is_source {f : Addr} {fd : FuncData} (F : FnP K "is_source" "is_source" s_is_source f fd) (g : mg "is_source" = some (.ref f)) (T : Tx mg) (h_is_row : Has P w K mg base CX0 9 "is_row" ["thing"] (spD K F_is_row)) (m_MOST_ROWS : ∃ t, mg "MOST_ROWS" = some (.int 8 t)) : Has P w K mg base CX0 10 "is_source" ["thing"] (spD K F_is_source) := by
  have nd := (sc_is_source).nd
  refine has_d (FF := F_is_source) F g (F.bindsN fun _ _ _ _ _ _ us hl => match us, hl with | [_], _ => rfl) sc_is_source (by rintro _ _ ⟨_, rfl, _⟩; rfl) (fun cdv A outer s H vs Q E ds d H0 hr x hd hf k => ?_)
  obtain ⟨a, rfl, ok, rfl⟩ := hf
  obtain ⟨v0, rfl, d0⟩ := dts1 hd
  refine ⟨_, (pss_cons (ps_if (PW.pt (pw_or (pt_not (kTruth (K := K) rfl (pe_callB (kIsi (K := K) rfl) rfl (T.free (by decide)) boot_isinstance (pa_cons (pv 0) (pa_cons (pe_bltn (v := .ty "tuple") rfl (T.free (by decide)) boot_tuple rfl) pa_nil))))) (pw_or1 (pt_cmpR op_gt (pe_callB (kLen (K := K) rfl) rfl (T.free (by decide)) boot_len (pa_cons (pv 0) pa_nil)) (pe_gint m_MOST_ROWS) (nomark _))))) (pss_one (ps_ret pe_bl)) pss_nil)
      (pss_one (ps_ret (kNot (K := K) rfl (pe_lc (own := [("row", 1)]) rfl nd (kSeq (K := K) rfl (pv 0)) (blkOk_by (N := ["thing", "row"]) (sc := defScope s_is_source) (own := [("row", 1)]) (by decide +kernel)) (fun _ _ _ _ _ => (pg_name (i := 1) nd rfl (Or.inl rfl))) (fun _ _ _ _ _ => (pts_one (pt_not (kTruth (K := K) rfl (pe_has h_is_row hr (by omega) rfl pass0 (pa_cons (pv 1) pa_nil)))))) (fun _ _ _ _ _ => (pv 1))))))), ?_⟩
  have k : Rt K H0 H (.bool (isSource a)) Q := k
  have no : ∀ {H3 : Hp}, Ex H H3 → isSource a = false → tRet (tC (.bl false)) { nx := fun _ H' => Q .non H', rt := Q } (start ["thing", "row"] [v0]) H3 := fun e3 z => (k.go e3).ret (x.trans e3) evd_bl (congrArg PyData.bool z.symm)
  cases hT : isT a "tuple" with
  | false =>
    refine s_yes (et_or (a := true) (b := true) (et_not (a := false) (et_is (et_b (ev_isi (evd_var d0) (by decide))) hT)) fun z => nomatch z) x fun H1 e1 => no e1 ?_
    cases a <;> first | rfl | simp [isT, tyN] at hT
  | true =>
    obtain ⟨ds, rfl⟩ := isT_tup hT
    refine s_ifD (b := decide ((8 : Int) < (ds.length : Int))) (et_or (a := false) (et_not (a := true) (et_is (et_b (ev_isi (evd_var d0) (by decide))) hT)) fun _ => et_test (ev_I0 (K := K) (evd_i (ev_lenT (evd_var d0))) evd_int)) x (fun hb H1 e1 => no e1 ?_) fun hb H1 e1 => ?_
    · have hb := of_decide_eq_true hb
      show (decide (ds.length ≤ 8) && _) = false
      rw [decide_eq_false (by omega), Bool.false_and]
    · have hb := of_decide_eq_false hb
      refine (k.go e1).ret (x.trans e1) (evd_b (ev_notD (evd_lcT (fun d => !isRow d) id (evd_var d0) (by omega) (fun _ => rfl) (fun v d H5 _ hm hv => et_not (et_b (ev_bl (evd_call (eds_cons (evd_var hv) eds_nil) ⟨d, rfl, ok_tup ok hm, rfl⟩)))) fun v d H5 _ _ _ hv => evd_var hv) (ok_lst_of ?_))) (congrArg PyData.bool ?_)
      · intro d hd
        rw [List.map_id] at hd
        exact ok_tup ok (List.mem_filter.mp hd).1
      · show (!(!(List.map id (ds.filter fun d => !isRow d)).isEmpty)) = (decide (ds.length ≤ 8) && ds.all isRow)
        rw [decide_eq_true (by omega), Bool.true_and, Bool.not_not, List.isEmpty_map, Bool.eq_iff_iff, List.isEmpty_iff, List.filter_eq_nil_iff, List.all_eq_true]
        simp
theorem sc_look : FnScope ["source"] ["source"] (defScope s_look) := ⟨rfl, rfl, rfl, by decide +kernel, rfl, by decide +kernel, by decide +kernel⟩
theorem ok_look {f : Addr} {fd : FuncData} (F : FnP K "look" "look" s_look f fd) (g : mg "look" = some (.ref f)) (T : Tx mg) (h_is_source : Has P w K mg base CX0 10 "is_source" ["thing"] (spD K F_is_source)) {c_BadSource : Addr} (x_BadSource : ExcF K mg "BadSource" c_BadSource) : Has P w K mg base (L2.CX P w) 11 "look" ["source"] (spDX K c_BadSource F_look) := by
  have nd := (sc_look).nd
  refine has_x F g (F.bindsN fun _ _ _ _ _ _ us hl => match us, hl with | [_], _ => rfl) sc_look (by rintro _ _ _ _ ⟨_, _, _, _, hd, ⟨_, rfl, _⟩, _⟩; exact dpAll_len hd) (fun cdv A outer s H vs Q E hr h => ?_)
  obtain ⟨_, o, H0, x, hd, ⟨d, rfl, ok, rfl⟩, k1, k2⟩ := h
  obtain ⟨v0, rfl, d0⟩ := dts1 hd
  refine ⟨_, (pss_one (ps_if (pt_not (kTruth (K := K) rfl (pe_has h_is_source hr (by omega) rfl pass0 (pa_cons (pv 0) pa_nil)))) (pss_one (ps_raise rfl (takes_of rfl rfl rfl rfl) (pmk_own PySem.F.excBase_ValueError x_BadSource.q x_BadSource.g x_BadSource.k (raises_own x_BadSource.b x_BadSource.t) rfl))) pss_nil)), ?_⟩
  refine s_ifD (b := !isSource d) (et_not (et_b (ev_bl (evd_call (eds_cons (evd_var d0) eds_nil) ⟨d, rfl, ok, rfl⟩)))) x (fun hb H1 e1 => ?_) fun hb H1 e1 => ?_
  · have hb : isSource d = false := by simpa using hb
    rw [hb] at k2
    exact k2 rfl H1 e1
  · have hb : isSource d = true := by simpa using hb
    rw [hb] at k1
    exact k1 _ rfl .non H1 H0 (Gr.base x e1) .non
theorem sc_Cell_init : FnScope ["self", "source"] ["self", "source"] (defScope s_Cell_init) := ⟨rfl, rfl, rfl, by decide +kernel, rfl, by decide +kernel, by decide +kernel⟩
theorem ok_Cell_init {f : Addr} {fd : FuncData} {W : NbC} (U : NbT K W) (F : FnP K "__init__" "Cell.__init__" s_Cell_init f fd) (M : Mk K W.C f) (g : mg "Cell" = some (.ref W.C)) (T : Tx mg) : HasI P w K mg base CX0 1 W.C "Cell" ["self", "source"] (spCellI K W) := by
  have nd := (sc_Cell_init).nd
  refine hasI_p F M g (F.bindsN fun _ _ _ _ _ _ us hl => match us, hl with | [_, _], _ => rfl) sc_Cell_init (by rintro _ _ _ _ ⟨_, _, _, rfl, _⟩; rfl) (fun cdv A outer s H vs Q E hr h => ?_)
  obtain ⟨x, dx, v, rfl, hx, k⟩ := h
  refine ⟨_, (pss_cons (kSetFld (K := K) rfl (pv 0) (pv 1))
      (pss_cons (kSetFld (K := K) rfl (pv 0) pe_int)
      (pss_cons (kSetFld (K := K) rfl (pv 0) pe_bl)
      (pss_one (kSetFld (K := K) rfl (pv 0) pe_non))))), ?_⟩
  refine s_fld (ev_var rfl) (ev_var rfl) hx U.cC (U.nC (by decide)) (by decide) fun H1 e1 => ?_
  refine s_fld ev_c (ev_var rfl) upd_same U.cC (U.nC (by decide)) (by show 1 < 1000; decide) fun H2 e2 => ?_
  refine s_fld ev_c (ev_var rfl) upd_same U.cC (U.nC (by decide)) (by show 2 < 1000; decide) fun H3 e3 => ?_
  refine s_fld ev_c (ev_var rfl) upd_same U.cC (U.nC (by decide)) (by show 3 < 1000; decide) fun H4 e4 => ?_
  refine k _ upd_same fun a o ha ho => ?_
  rw [upd_ne ha]
  refine e4 _ _ ?_
  rw [upd_ne ha]
  refine e3 _ _ ?_
  rw [upd_ne ha]
  refine e2 _ _ ?_
  rw [upd_ne ha]
  exact e1 _ _ ho
theorem sc_Notebook_init : FnScope ["self"] ["self"] (defScope s_Notebook_init) := ⟨rfl, rfl, rfl, by decide +kernel, rfl, by decide +kernel, by decide +kernel⟩
theorem ok_Notebook_init {f : Addr} {fd : FuncData} {W : NbC} (U : NbT K W) (F : FnP K "__init__" "Notebook.__init__" s_Notebook_init f fd) (M : Mk K W.N f) (g : mg "Notebook" = some (.ref W.N)) (T : Tx mg) : HasI P w K mg base CX0 1 W.N "Notebook" ["self"] (spNbI K W) := by
  have nd := (sc_Notebook_init).nd
  refine hasI_p F M g (F.bindsN fun _ _ _ _ _ _ us hl => match us, hl with | [_], _ => rfl) sc_Notebook_init (by rintro _ _ _ _ ⟨_, _, rfl, _⟩; rfl) (fun cdv A outer s H vs Q E hr h => ?_)
  obtain ⟨x, dx, rfl, hx, k⟩ := h
  refine ⟨_, (pss_cons (kSetFld (K := K) rfl (pv 0) pe_dnewK)
      (pss_cons (kSetFld (K := K) rfl (pv 0) (pe_lst pa_nil))
      (pss_one (kSetFld (K := K) rfl (pv 0) pe_int)))), ?_⟩
  intro c hc
  have nc : x ≠ c := ne_of_none hx hc
  refine ⟨_, rfl, x, W.N, dx, _, rfl, (upd_ne nc).trans hx, U.cN, U.nN (by decide), by decide, ?_⟩
  refine ⟨Nat.zero_le _, fun r hr => ?_⟩
  have nr : r ≠ x := fun z => by rw [z, upd_same] at hr; cases hr
  rw [upd_ne nr] at hr
  have nrc : r ≠ c := fun z => by rw [z, upd_same] at hr; cases hr
  rw [upd_ne nrc] at hr
  refine ⟨_, rfl, x, W.N, dx, _, rfl, (upd_ne nr.symm).trans upd_same, U.cN, U.nN (by decide), by show 1 < 1000; decide, ?_⟩
  refine ⟨_, rfl, x, W.N, dx, _, rfl, upd_same, U.cN, U.nN (by decide), by show 2 < 1000; decide, ?_⟩
  refine k c r _ hc hr nrc.symm upd_same ?_ ?_ fun a o ha ho => ?_
  · rw [upd_ne nc.symm, upd_ne nc.symm, upd_ne nrc.symm, upd_ne nc.symm, upd_same]
  · rw [upd_ne nr, upd_ne nr, upd_same]
  · have h1 : a ≠ r := ne_of_none ho hr
    have h2 : a ≠ c := ne_of_none ho hc
    rw [upd_ne ha, upd_ne ha, upd_ne h1, upd_ne ha, upd_ne h2]
    exact ho
theorem sc_Notebook_look_cell : FnScope ["self", "number"] ["self", "number"] (defScope s_Notebook_look_cell) := ⟨rfl, rfl, rfl, by decide +kernel, rfl, by decide +kernel, by decide +kernel⟩
theorem ok_Notebook_look_cell {f : Addr} {fd : FuncData} {W : NbC} (U : NbT K W) (h_is_within : Has P w K mg base CX0 1 "is_within" ["thing", "low", "high"] (spD K F_is_within)) {c_NoCell : Addr} (x_NoCell : ExcF K mg "NoCell" c_NoCell) (F : FnP K "look_cell" "Notebook.look_cell" s_Notebook_look_cell f fd) (g : Meth K W.N "look_cell" f) (T : Tx mg) : HasM P w K mg base (L2.CX P w) 2 W.N "look_cell" ["self", "number"] (spNq K W (R_look_cell c_NoCell)) := by
  have nd := (sc_Notebook_look_cell).nd
  refine hasM_x F g (F.bindsN fun _ _ _ _ _ _ us hl => match us, hl with | [_, _], _ => rfl) sc_Notebook_look_cell (by rintro _ _ _ _ ⟨_, _, _, _, _, _, _, rfl, _, _, hd, ⟨_, rfl, _⟩, _⟩; exact congrArg (· + 1) (dpAll_len hd)) (fun cdv A outer s H vs Q E hr h => ?_)
  obtain ⟨M, B, nb, st', ws, _, o, rfl, hN, hG, hd, ⟨d, rfl, rfl⟩, k1, k2⟩ := h
  obtain ⟨v1, rfl, d1⟩ := dts1 hd
  obtain ⟨dn, c, r, kvs, ad, L⟩ := hN
  refine ⟨_, (pss_one (ps_if (PW.pt (pw_or (pt_not (kTruth (K := K) rfl (pe_has h_is_within hr (by omega) rfl pass0 (pa_cons (pv 1) (pa_cons pe_int (pa_cons (kFld (K := K) rfl (pv 0)) pa_nil)))))) (pw_or1 (pt_cmp (pc_dnotin (Nat.lt_of_le_of_lt (Nat.add_le_add_left (by decide) _) hr.units) (pv 1) (kFld (K := K) rfl (pv 0))))))) (pss_one (ps_raise rfl (takes_of rfl rfl rfl rfl) (pmk_own PySem.F.excBase_ValueError x_NoCell.q x_NoCell.g x_NoCell.k (raises_own x_NoCell.b x_NoCell.t) rfl))) pss_nil)), ?_⟩
  have D1 := dp_ex L.x _ _ d1
  refine s_ifD (H0 := H) (b := !isCellD st' d) (et_is (et_or (a := !isWithin d 0 (st'.after : Int)) (b := !isCellD st' d) (et_not (et_b (ev_bl (evd_call (eds_cons (evd_var D1) (eds_cons evd_int (eds_cons (evd_i (L.afterE U (ev_var rfl))) eds_nil))) ⟨d, 0, _, rfl, rfl⟩)))) fun hb => ?_) ?_) (Ex.refl _) (fun hb H1 e1 => ?_) fun hb H1 e1 => ?_
  · obtain ⟨i, rfl⟩ : ∃ i, d = .int i := by
      cases d <;> simp [isWithin] at hb
      exact ⟨_, rfl⟩
    rw [← L.isSome i]
    exact et_B (ev_dnotin (k := .inl i) (ev_int (evd_var D1)) (L.cellsE U (ev_var rfl)) L.hc)
  · cases h : isCellD st' d with
    | false => simp
    | true => rw [cell_within hG h]; rfl
  · rw [Bool.not_eq_true'] at hb
    rw [hb] at k2
    exact k2 _ rfl H1 e1
  · rw [Bool.not_eq_false'] at hb
    rw [hb] at k1
    exact k1 _ rfl .non H1 B (Gr.base L.x e1) .non
theorem sc_Notebook_look_place : FnScope ["self", "place", "most"] ["self", "place", "most"] (defScope s_Notebook_look_place) := ⟨rfl, rfl, rfl, by decide +kernel, rfl, by decide +kernel, by decide +kernel⟩
theorem ok_Notebook_look_place {f : Addr} {fd : FuncData} {W : NbC} (U : NbT K W) (h_is_within : Has P w K mg base CX0 1 "is_within" ["thing", "low", "high"] (spD K F_is_within)) {c_BadNumber : Addr} (x_BadNumber : ExcF K mg "BadNumber" c_BadNumber) (F : FnP K "look_place" "Notebook.look_place" s_Notebook_look_place f fd) (g : Meth K W.N "look_place" f) (T : Tx mg) : HasM P w K mg base (L2.CX P w) 2 W.N "look_place" ["self", "place", "most"] (spNq K W (R_look_place c_BadNumber)) := by
  have nd := (sc_Notebook_look_place).nd
  refine hasM_x F g (F.bindsN fun _ _ _ _ _ _ us hl => match us, hl with | [_, _, _], _ => rfl) sc_Notebook_look_place (by rintro _ _ _ _ ⟨_, _, _, _, _, _, _, rfl, _, _, hd, ⟨_, _, rfl, _⟩, _⟩; exact congrArg (· + 1) (dpAll_len hd)) (fun cdv A outer s H vs Q E hr h => ?_)
  obtain ⟨M, B, nb, st, ws, _, o, rfl, hN, hG, hd, ⟨d, i, rfl, rfl⟩, k1, k2⟩ := h
  obtain ⟨v1, v2, rfl, d1, d2⟩ := dts2 hd
  have x := hN.x
  refine ⟨_, (pss_one (ps_if (pt_not (kTruth (K := K) rfl (pe_has h_is_within hr (by omega) rfl pass0 (pa_cons (pv 1) (pa_cons pe_int (pa_cons (pv 2) pa_nil)))))) (pss_one (ps_raise rfl (takes_of rfl rfl rfl rfl) (pmk_own PySem.F.excBase_ValueError x_BadNumber.q x_BadNumber.g x_BadNumber.k (raises_own x_BadNumber.b x_BadNumber.t) rfl))) pss_nil)), ?_⟩
  refine s_ifD (b := !isWithin d 0 i) (et_not (et_b (ev_bl (evd_call (eds_cons (evd_var d1) (eds_cons evd_int (eds_cons (evd_var d2) eds_nil))) ⟨d, 0, i, rfl, rfl⟩)))) x (fun hb H1 e1 => ?_) fun hb H1 e1 => ?_
  · rw [Bool.not_eq_true'] at hb
    rw [hb] at k2
    exact k2 _ rfl H1 e1
  · rw [Bool.not_eq_false'] at hb
    rw [hb] at k1
    exact k1 _ rfl .non H1 B (Gr.base x e1) .non
theorem sc_Notebook_put : FnScope ["self", "place", "source", "number"] ["self", "place", "source"] (defScope s_Notebook_put) := ⟨rfl, rfl, rfl, by decide +kernel, rfl, by decide +kernel, by decide +kernel⟩
theorem ok_Notebook_put {f : Addr} {fd : FuncData} {W : NbC} (U : NbT K W) {c_BadSource : Addr} {c_BadNumber : Addr} (i_Cell : HasI P w K mg base CX0 1 W.C "Cell" ["self", "source"] (spCellI K W)) (m_MOST_CELLS : ∃ t, mg "MOST_CELLS" = some (.int 30 t)) {c_Full : Addr} (x_Full : ExcF K mg "Full" c_Full) (h_look : Has P w K mg base (L2.CX P w) 11 "look" ["source"] (spDX K c_BadSource F_look)) (h_Notebook_look_place : HasM P w K mg base (L2.CX P w) 2 W.N "look_place" ["self", "place", "most"] (spNq K W (R_look_place c_BadNumber))) (F : FnP K "put" "Notebook.put" s_Notebook_put f fd) (g : Meth K W.N "put" f) (T : Tx mg) : HasM P w K mg base (L2.CX P w) 12 W.N "put" ["self", "place", "source"] (spNb K W (R_put c_BadNumber c_BadSource c_Full)) := by
  have nd := (sc_Notebook_put).nd
  refine hasM_x F g (F.bindsN fun _ _ _ _ _ _ us hl => match us, hl with | [_, _, _], _ => rfl) sc_Notebook_put (by rintro _ _ _ _ ⟨_, _, _, _, _, _, _, _, rfl, _, _, hd, ⟨_, _, rfl, _⟩, _⟩; exact congrArg (· + 1) (dpAll_len hd)) (fun cdv A outer s H vs Q E hr h => ?_)
  obtain ⟨M, B, nb, st, ws, _, o, st', rfl, hN, hG, hd, ⟨d, s, rfl, ok, hf⟩, k1, k2⟩ := h
  obtain ⟨v1, v2, rfl, d1, d2⟩ := dts2 hd
  obtain ⟨dn, c, r, kvs, ad, L⟩ := hN
  refine ⟨_, (pss_cons (ps_expr (pe_hm (pv 0) U.cN h_Notebook_look_place hr (by omega) (passA (passes_call (takes_of rfl rfl rfl rfl) fun _ _ _ _ h => h)) (pa_cons (pv 1) (pa_cons (pe_callB (kLen (K := K) rfl) rfl (T.free (by decide)) boot_len (pa_cons (kFld (K := K) rfl (pv 0)) pa_nil)) pa_nil))))
      (pss_cons (ps_expr (pe_has h_look hr (by omega) rfl (passes_call (takes_of rfl rfl rfl rfl) fun _ _ _ _ h => h) (pa_cons (pv 2) pa_nil)))
      (pss_cons (ps_if (pt_cmpR (kEq (K := K) rfl hr.units) (pe_callB (kLen (K := K) rfl) rfl (T.free (by decide)) boot_len (pa_cons (kFld (K := K) rfl (pv 0)) pa_nil)) (pe_gint m_MOST_CELLS) (nomark _)) (pss_one (ps_raise rfl (takes_of rfl rfl rfl rfl) (pmk_own PySem.F.excBase_ValueError x_Full.q x_Full.g x_Full.k (raises_own x_Full.b x_Full.t) rfl))) pss_nil)
      (pss_cons (ps_set (i := 3) nd rfl (Or.inl rfl) (kFld (K := K) rfl (pv 0)))
      (pss_cons (kAugFld (K := K) rfl (pv 0) pe_int)
      (pss_cons (ps_dput (Nat.lt_of_le_of_lt (Nat.add_le_add_left (by decide) _) hr.units) (kFld (K := K) rfl (pv 0)) (pv 3) (pe_mk i_Cell hr (by omega) rfl pass0 (pa_cons (pv 2) pa_nil)) rfl)
      (pss_cons (ps_expr (pe_bm PySem.F.plainAttrs_list PySem.F.slot_list_insert PySem.F.type_list_insert kIns (kFld (K := K) rfl (pv 0)) (pa_cons (pv 1) (pa_cons (pv 3) pa_nil))))
      (pss_one (ps_ret (pv 3)))))))))), ?_⟩
  have no : ∀ {H1 : Hp} (cc : Addr), Ex H H1 → o = .inr cc → st' = st → E (.ref cc) none H1 := fun {H1} cc e ho hs => k2 _ ho H1 B M (Fr.of (Gr.base L.x e)) (by rw [hs]; exact (L.ex e).toNB)
  refine s_q (K := K) (T := W) (st := st) (fun _ _ _ => rfl) (ev_var rfl) L.toNB hG (ebs_cons ((evd_var d1).toB L.x) (ebs_cons (evb_i L.x (L.lenE U (ev_var rfl))) (ebs_nil L.x))) ⟨d, (st.row.length : Int), rfl, rfl⟩ (fun z e H1 e1 => ?_) fun cc e H1 e1 => ?_
  rotate_left
  · cases hw : isWithin d 0 (st.row.length : Int) with
    | true => rw [hw] at e; cases e
    | false =>
      rw [hw] at e
      cases e
      rcases hf with ⟨_, ho, hs⟩ | ⟨h, _⟩ | ⟨h, _⟩ | ⟨i, src, rfl, hi, _⟩
      · exact no _ e1 ho hs
      · rw [hw] at h; cases h
      · rw [hw] at h; cases h
      · exfalso
        simp [isWithin] at hw
        omega
  have hw : isWithin d 0 (st.row.length : Int) = true := by
    cases hw : isWithin d 0 (st.row.length : Int) with
    | true => rfl
    | false => rw [hw] at e; cases e
  clear e z
  refine s_callX (cB := c_BadSource) (eds_cons (evd_var d2) eds_nil) (L.x.trans e1) ⟨s, rfl, ok, rfl⟩ (fun z e H2 e2 => ?_) fun e H2 e2 => ?_
  rotate_left
  · have hS : isSource s = false := by
      cases hS : isSource s with
      | false => rfl
      | true => rw [hS] at e; cases e
    rcases hf with ⟨h, _⟩ | ⟨_, _, ho, hs⟩ | ⟨_, h, _⟩ | ⟨i, src, _, hi, rfl, hg, _⟩
    · rw [hw] at h; cases h
    · exact no _ (e1.trans e2) ho hs
    · rw [hS] at h; cases h
    · rw [isSource_enc src hg] at hS; cases hS
  have hS : isSource s = true := by
    cases hS : isSource s with
    | true => rfl
    | false => rw [hS] at e; cases e
  clear e z
  have L2 := L.ex (e1.trans e2)
  dsimp only
  refine s_ifD (H0 := H2) (b := decide (st.row.length = 30)) (et_is (et_test (ev_eq (evd_i (K := K) (L2.lenE U (ev_var rfl))) evd_int rfl rfl)) ?_) (Ex.refl _) (fun hb H3 e3 => ?_) fun hb H3 e3 => ?_
  · show ((st.row.length : Int) == 30) = _
    rw [Bool.eq_iff_iff]
    simp
    omega
  · have hb := of_decide_eq_true hb
    rcases hf with ⟨h, _⟩ | ⟨_, h, _⟩ | ⟨_, _, _, ho, hs⟩ | ⟨i, src, _, hi, rfl, hg, h, _⟩
    · rw [hw] at h; cases h
    · rw [hS] at h; cases h
    · exact no _ ((e1.trans e2).trans e3) ho hs
    · omega
  have hb := of_decide_eq_false hb
  rcases hf with ⟨h, _⟩ | ⟨_, h, _⟩ | ⟨_, _, h, _⟩ | ⟨i, src, rfl, hi, rfl, hg, h30, rfl, rfl⟩
  · rw [hw] at h; cases h
  · rw [hS] at h; cases h
  · exact absurd h hb
  have L3 := L2.ex e3
  refine s_asg (L3.afterE U (ev_var rfl)) fun H4 e4 => ?_
  have L4 := L3.ex e4
  have X4 : Ex H H4 := ((e1.trans e2).trans e3).trans e4
  dsimp only
  refine s_fldaug (ev_var rfl) L4.hn U.cN (U.nN (by decide)) rfl ev_c (by show 3 < 1000; decide) fun H5 e5 => ?_
  have L5 := L4.ex e5
  have X5 : Ex H H5 := X4.trans e5
  have hc5 := L5.hc
  have hr5 := L5.hr
  refine ⟨_, rfl, fun x dx hx hdx hne => ?_⟩
  have nx : x ≠ nb := fun z => by rw [z, upd_same] at hx; cases hx
  rw [upd_ne nx] at hx
  have ndn : dx ≠ nb := fun z => by rw [z, upd_same] at hdx; cases hdx
  rw [upd_ne ndn] at hdx
  have xc : x ≠ c := fun z => by rw [z, hc5] at hx; cases hx
  have xr : x ≠ r := fun z => by rw [z, hr5] at hx; cases hx
  have dc : dx ≠ c := fun z => by rw [z, hc5] at hdx; cases hdx
  have dr : dx ≠ r := fun z => by rw [z, hr5] at hdx; cases hdx
  refine ⟨x, dx, v2, rfl, upd_same, fun H6 h6 f6 => ⟨rfl, ?_⟩⟩
  have g6 : ∀ a o, a ≠ nb → H5 a = some o → H6 a = some o := fun a o ha ho => by
    have h1 : a ≠ x := ne_of_none ho hx
    have h2 : a ≠ dx := ne_of_none ho hdx
    refine f6 a o h1 ?_
    rw [upd_ne h1, upd_ne h2, upd_ne ha]
    exact ho
  have n6 : H6 nb = some (.ins W.N dn [("cells", .ref c), ("row", .ref r), ("after", .int ((st.after : Int) + 1))]) := by
    refine f6 nb _ nx.symm ?_
    rw [upd_ne nx.symm, upd_ne ndn.symm, upd_same]
    rfl
  have c6 : H6 c = some (.dK kvs) := g6 c _ L5.ne_nc.symm hc5
  have r6 : H6 r = some (.lst (st.row.map fun n : Nat => V.int (n : Int))) := g6 r _ L5.ne_nr.symm hr5
  show tFld K (tVar 0) "cells" _ H6 _
  refine ev_fld (K := K) (ta := tVar 0) (f := "cells") (v := .ref c) (ev_var rfl) n6 U.cN (U.nN (by decide)) rfl H6 (Ex.refl _) _ fun H7 e7 => ?_
  refine ⟨_, rfl, c, _, rfl, DPut.k (k := .inl (st.after : Int)) (e7 _ _ c6) (sz_lt ?_), ?_⟩
  · have := L.kl
    have := hG.few
    omega
  have n8 : upd H7 c (.dK (putK kvs (.inl (st.after : Int)) (.ref x))) nb = some (.ins W.N dn [("cells", .ref c), ("row", .ref r), ("after", .int ((st.after : Int) + 1))]) := by
    rw [upd_ne L5.ne_nc]
    exact e7 _ _ n6
  have r8 : upd H7 c (.dK (putK kvs (.inl (st.after : Int)) (.ref x))) r = some (.lst (st.row.map fun n : Nat => V.int (n : Int))) := by
    rw [upd_ne L5.ne_cr.symm]
    exact e7 _ _ r6
  have ei := dp_int d1
  subst ei
  dsimp only
  refine s_ins (l := r) (i := (i : Int)) (y := .int (st.after : Int)) r8 (ev_fld (K := K) (ev_var rfl) n8 U.cN (U.nN (by decide)) rfl) (ev_var rfl) (ev_var rfl) (by rw [List.length_map]; omega) (by omega) (by omega) fun H8 e8 => ?_
  rw [Int.toNat_natCast]
  have hx0 : H x = none := fresh_back X5 hx
  have key := L.put (H' := upd H8 r (.lst ((st.row.map fun n : Nat => V.int (n : Int)).take i ++ [V.int (st.after : Int)] ++ (st.row.map fun n : Nat => V.int (n : Int)).drop i))) (v := v2) (src := src) (dx := dx) (x := x) hG hi hx0 d2 ?_ ?_ upd_same ?_ ?_
  · exact ⟨_, rfl, k1 _ rfl _ _ B _ key.1 key.2 (.int _)⟩
  · rw [upd_ne L5.ne_nr]
    exact e8 _ _ n8
  · rw [upd_ne L5.ne_cr]
    exact e8 _ _ upd_same
  · rw [upd_ne xr]
    refine e8 _ _ ?_
    rw [upd_ne xc]
    exact e7 _ _ h6
  · intro a o ha hc hr ho
    rw [upd_ne hr]
    refine e8 _ _ ?_
    rw [upd_ne hc]
    exact e7 _ _ (g6 a o ha (X5 _ _ ho))
theorem sc_Notebook_change : FnScope ["self", "number", "version", "source", "cell"] ["self", "number", "version", "source"] (defScope s_Notebook_change) := ⟨rfl, rfl, rfl, by decide +kernel, rfl, by decide +kernel, by decide +kernel⟩
theorem ok_Notebook_change {f : Addr} {fd : FuncData} {W : NbC} (U : NbT K W) {c_BadSource : Addr} {c_NoCell : Addr} {c_Behind : Addr} (x_Behind : ExcF K mg "Behind" c_Behind) (h_look : Has P w K mg base (L2.CX P w) 11 "look" ["source"] (spDX K c_BadSource F_look)) (h_is_within : Has P w K mg base CX0 1 "is_within" ["thing", "low", "high"] (spD K F_is_within)) {c_BadNumber : Addr} (x_BadNumber : ExcF K mg "BadNumber" c_BadNumber) (h_Notebook_look_cell : HasM P w K mg base (L2.CX P w) 2 W.N "look_cell" ["self", "number"] (spNq K W (R_look_cell c_NoCell))) (F : FnP K "change" "Notebook.change" s_Notebook_change f fd) (g : Meth K W.N "change" f) (T : Tx mg) : HasM P w K mg base (L2.CX P w) 12 W.N "change" ["self", "number", "version", "source"] (spNb K W (R_change c_NoCell c_BadNumber c_BadSource c_Behind)) := by
  have nd := (sc_Notebook_change).nd
  refine hasM_x F g (F.bindsN fun _ _ _ _ _ _ us hl => match us, hl with | [_, _, _, _], _ => rfl) sc_Notebook_change (by rintro _ _ _ _ ⟨_, _, _, _, _, _, _, _, rfl, _, _, hd, ⟨_, _, _, rfl, _⟩, _⟩; exact congrArg (· + 1) (dpAll_len hd)) (fun cdv A outer s H vs Q E hr h => ?_)
  obtain ⟨M, B, nb, st, ws, _, o, st', rfl, hN, hG, hd, ⟨d, e0, s, rfl, ok, hf⟩, k1, k2⟩ := h
  obtain ⟨v1, v2, v3, rfl, d1, d2, d3⟩ := dts3 hd
  obtain ⟨dn, c, r, kvs, ad, L⟩ := hN
  refine ⟨_, (pss_cons (ps_expr (pe_hm (pv 0) U.cN h_Notebook_look_cell hr (by omega) (passA (passes_call (takes_of rfl rfl rfl rfl) fun _ _ _ _ h => h)) (pa_cons (pv 1) pa_nil)))
      (pss_cons (ps_if (pt_not (kTruth (K := K) rfl (pe_has h_is_within hr (by omega) rfl pass0 (pa_cons (pv 2) (pa_cons pe_int (pa_cons pe_int pa_nil)))))) (pss_one (ps_raise rfl (takes_of rfl rfl rfl rfl) (pmk_own PySem.F.excBase_ValueError x_BadNumber.q x_BadNumber.g x_BadNumber.k (raises_own x_BadNumber.b x_BadNumber.t) rfl))) pss_nil)
      (pss_cons (ps_expr (pe_has h_look hr (by omega) rfl (passes_call (takes_of rfl rfl rfl rfl) fun _ _ _ _ h => h) (pa_cons (pv 3) pa_nil)))
      (pss_cons (ps_set (i := 4) nd rfl (Or.inl rfl) (pe_dget (Nat.lt_of_le_of_lt (Nat.add_le_add_left (by decide) _) hr.units) (kFld (K := K) rfl (pv 0)) (pv 1) (fun _ _ => rfl)))
      (pss_cons (ps_if (pt_cmpR (kNe (K := K) rfl hr.units) (pv 2) (kFld (K := K) rfl (pv 4)) (nomark _)) (pss_one (ps_raise rfl (takes_of rfl rfl rfl rfl) (pmk_own PySem.F.excBase_ValueError x_Behind.q x_Behind.g x_Behind.k (raises_own x_Behind.b x_Behind.t) rfl))) pss_nil)
      (pss_cons (kSetFld (K := K) rfl (pv 4) (pv 3))
      (pss_cons (kAugFld (K := K) rfl (pv 4) pe_int)
      (pss_one (ps_ret (kFld (K := K) rfl (pv 4))))))))))), ?_⟩
  have no : ∀ {H1 : Hp} (cc : Addr), Ex H H1 → o = .inr cc → st' = st → E (.ref cc) none H1 := fun {H1} cc e ho hs => k2 _ ho H1 B M (Fr.of (Gr.base L.x e)) (by rw [hs]; exact (L.ex e).toNB)
  refine s_q (K := K) (T := W) (st := st) (fun _ _ _ => rfl) (ev_var rfl) L.toNB hG (ebs_cons ((evd_var d1).toB L.x) (ebs_nil L.x)) ⟨d, rfl, rfl⟩ (fun z e H1 e1 => ?_) fun cc e H1 e1 => ?_
  rotate_left
  · rcases hf with ⟨h, ho, hs⟩ | ⟨n, hn, rfl, _⟩
    · rw [h] at e
      cases e
      exact no _ e1 ho hs
    · rw [cell_int hn] at e
      cases e
  rcases hf with ⟨h, ho, hs⟩ | ⟨n, hn, rfl, hf⟩
  · rw [h] at e
    cases e
  clear e z
  dsimp only
  have ei := dp_int d1
  subst ei
  refine s_ifD (b := !isWithin e0 0 1000000) (et_not (et_b (ev_bl (evd_call (eds_cons (evd_var d2) (eds_cons evd_int (eds_cons evd_int eds_nil))) ⟨e0, 0, _, rfl, rfl⟩)))) (L.x.trans e1) (fun hb H2 e2 => ?_) fun hb H2 e2 => ?_
  · rw [Bool.not_eq_true'] at hb
    rcases hf with ⟨h, ho, hs⟩ | ⟨i, rfl, h, _⟩
    · exact no _ (e1.trans e2) ho hs
    · rw [h] at hb; cases hb
  rw [Bool.not_eq_false'] at hb
  rcases hf with ⟨h, ho, hs⟩ | ⟨i, rfl, _, hf⟩
  · rw [h] at hb; cases hb
  have ei := dp_int d2
  subst ei
  refine s_callX (cB := c_BadSource) (eds_cons (evd_var d3) eds_nil) (L.x.trans (e1.trans e2)) ⟨s, rfl, ok, rfl⟩ (fun z e H3 e3 => ?_) fun e H3 e3 => ?_
  rotate_left
  · rcases hf with ⟨h, ho, hs⟩ | ⟨src, rfl, hg, _⟩
    · exact no _ ((e1.trans e2).trans e3) ho hs
    · rw [isSource_enc src hg] at e; cases e
  rcases hf with ⟨h, ho, hs⟩ | ⟨src, rfl, hg, hf⟩
  · rw [h] at e; cases e
  clear e z
  have X3 := (e1.trans e2).trans e3
  have L3 := L.ex X3
  dsimp only
  refine s_asg (L3.atE U (ev_var rfl) (ev_var rfl) hn) fun H4 e4 => ?_
  have L4 := L3.ex e4
  dsimp only
  refine s_ifD (H0 := H4) (b := decide (i ≠ ((st.cell n).count : Int))) (et_is (et_test (ev_ne (K := K) (evd_var (.int i)) (evd_i (L4.countE U hn (ev_var rfl))) rfl rfl)) ?_) (Ex.refl _) (fun hb H5 e5 => ?_) fun hb H5 e5 => ?_
  · show (!(i == ((st.cell n).count : Int))) = _
    rw [Bool.eq_iff_iff]
    simp
  · have hb := of_decide_eq_true hb
    rcases hf with ⟨h, ho, hs⟩ | ⟨h, _⟩
    · exact no _ ((X3.trans e4).trans e5) ho hs
    · exact absurd h hb
  have hb := of_decide_eq_false hb
  rcases hf with ⟨h, _⟩ | ⟨rfl, rfl, rfl⟩
  · exact absurd h hb
  have X5 := (X3.trans e4).trans e5
  have L5 := L.ex X5
  obtain ⟨dx, lv, rv, h1, h2, h3⟩ := L5.cells n hn
  dsimp only
  refine s_fld (ev_var rfl) (ev_var rfl) h1 U.cC (U.nC (by decide)) (by show 4 < 1000; decide) fun H6 e6 => ?_
  dsimp only
  refine s_fldaug (ev_var rfl) upd_same U.cC (U.nC (by decide)) rfl ev_c (by show 4 < 1000; decide) fun H7 e7 => ?_
  dsimp only
  refine s_ret (ev_fld (ev_var rfl) upd_same U.cC (U.nC (by decide)) rfl) fun H8 e8 => ?_
  have key := L.setCell (H' := H8) (cs := chC (st.cell n) src) (lv := v3) (rv := rv) (dx := dx) hn (e8 _ _ upd_same) d3 h3 fun a o ha ho => e8 _ _ (by
    rw [upd_ne ha]
    refine e7 _ _ ?_
    rw [upd_ne ha]
    exact e6 _ _ (X5 _ _ ho))
  exact k1 _ rfl _ H8 B M key.1 key.2.toNB (.int _)
theorem ok_Notebook_setter {f : Addr} {fd : FuncData} {W : NbC} (U : NbT K W) (F : FnP K "setter" "Notebook.setter" s_Notebook_setter f fd) (g : Meth K W.N "setter" f) (T : Tx mg) : HasM P w K mg base CX0 1 W.N "setter" ["self", "number", "name"] (spNq K W R_never) := spNq_never F g (F.bindsN fun _ _ _ _ _ _ us hl => match us, hl with | [_, _, _], _ => rfl)
theorem sc_Notebook_holds : FnScope ["self", "number", "fresh", "record", "name", "known", "other"] ["self", "number", "fresh"] (defScope s_Notebook_holds) := ⟨rfl, rfl, rfl, by decide +kernel, rfl, by decide +kernel, by decide +kernel⟩
theorem ok_Notebook_holds {f : Addr} {fd : FuncData} {W : NbC} (U : NbT K W) (h_Notebook_last_told : HasM P w K mg base CX0 1 W.N "last_told" ["self", "number", "name"] (spNq K W R_never)) (h_Notebook_setter : HasM P w K mg base CX0 1 W.N "setter" ["self", "number", "name"] (spNq K W R_never)) (F : FnP K "holds" "Notebook.holds" s_Notebook_holds f fd) (g : Meth K W.N "holds" f) (T : Tx mg) : HasM P w K mg base CX0 2 W.N "holds" ["self", "number", "fresh"] (spNq K W R_holds0) := by
  have nd := (sc_Notebook_holds).nd
  refine hasM_p F g (F.bindsN fun _ _ _ _ _ _ us hl => match us, hl with | [_, _, _], _ => rfl) sc_Notebook_holds (by rintro _ _ _ _ ⟨_, _, _, _, _, _, _, rfl, _, _, hd, ⟨_, _, rfl, _⟩, _⟩; exact congrArg (· + 1) (dpAll_len hd)) (fun cdv A outer s H vs Q E hr h => ?_)
  obtain ⟨M, B, nb, st, ws, _, o, rfl, hN, hG, hd, ⟨n, x, rfl, hn, hrec, rfl⟩, k1, k2⟩ := h
  obtain ⟨v1, v2, rfl, d1, d2⟩ := dts2 hd
  have ei := dp_int d1
  subst ei
  obtain ⟨dn, c, r, kvs, ad, L⟩ := hN
  refine ⟨_, (pss_cons (ps_set (i := 3) nd rfl (Or.inl rfl) (kFld (K := K) rfl (pe_dget (Nat.lt_of_le_of_lt (Nat.add_le_add_left (by decide) _) hr.units) (kFld (K := K) rfl (pv 0)) (pv 1) (fun _ _ => rfl))))
      (pss_cons (ps_if (PW.pt (pw_or (pt_cmpR op_isN (pv 3) pe_non (nomark _)) (pw_or1 (pt_cmpR (kNe (K := K) rfl hr.units) (kFld (K := K) rfl (pv 3)) (kFld (K := K) rfl (pe_dget (Nat.lt_of_le_of_lt (Nat.add_le_add_left (by decide) _) hr.units) (kFld (K := K) rfl (pv 0)) (pv 1) (fun _ _ => rfl))) (nomark _))))) (pss_one (ps_ret pe_bl)) pss_nil)
      (pss_cons (ps_for PassesOwn.never rfl (kSeq (K := K) rfl (kFld (K := K) rfl (pv 3))) (pg_tup rfl (pgs_cons (pg_name (i := 4) nd rfl (Or.inl rfl)) (pgs_cons (pg_name (i := 5) nd rfl (Or.inl rfl)) pgs_nil))) (pss_cons (ps_set (i := 6) nd rfl (Or.inl rfl) (pe_hm (pv 0) U.cN h_Notebook_setter hr (by omega) (passA pass0) (pa_cons (pv 1) (pa_cons (pv 4) pa_nil))))
      (pss_cons (ps_if (PW.pt (pw_and (pt_cmpR op_notN (pv 6) pe_non (nomark _)) (pw_and1 (pt_cmpR (kNotIn (K := K) rfl) (pv 6) (pv 2) rfl)))) (pss_one (ps_ret pe_bl)) pss_nil)
      (pss_one (ps_if (pt_cmpR (kNe (K := K) rfl hr.units) (pv 5) (pe_hm (pv 0) U.cN h_Notebook_last_told hr (by omega) (passA pass0) (pa_cons (pv 6) (pa_cons (pv 4) pa_nil))) (nomark _)) (pss_one (ps_ret pe_bl)) pss_nil)))))
      (pss_one (ps_ret pe_bl))))), ?_⟩
  obtain ⟨rv, h1, h2⟩ := L.recE U hn (L.atE U (ta := tVar 0) (ty := tVar 1) (σ := start ["self", "number", "fresh", "record", "name", "known", "other"] [.ref nb, .int (n : Int), v2]) (ev_var rfl) (ev_var rfl) hn)
  rw [hrec] at h2
  have h2 : rv = .non := h2
  subst h2
  refine s_asg h1 fun H1 e1 => ?_
  dsimp only
  refine s_yes (H0 := H1) (et_or (a := true) (b := true) (et_is (et_test (ev_isN (ev_var rfl))) rfl) fun z => nomatch z) (Ex.refl _) fun H2 e2 => ?_
  exact s_retD (K := K) (H0 := H2) evd_bl (Ex.refl _) fun v H3 Hd g hv => k1 _ rfl v H3 B (Gr.base L.x (e1.trans (e2.trans g.ex))) (by rw [dp_bool hv]; exact .bl _)
theorem ok_Notebook_last_told {f : Addr} {fd : FuncData} {W : NbC} (U : NbT K W) (F : FnP K "last_told" "Notebook.last_told" s_Notebook_last_told f fd) (g : Meth K W.N "last_told" f) (T : Tx mg) : HasM P w K mg base CX0 1 W.N "last_told" ["self", "number", "name"] (spNq K W R_never) := spNq_never F g (F.bindsN fun _ _ _ _ _ _ us hl => match us, hl with | [_, _, _], _ => rfl)
theorem sc_Notebook_fresh : FnScope ["self", "found", "number"] ["self"] (defScope s_Notebook_fresh) := ⟨rfl, rfl, rfl, by decide +kernel, rfl, by decide +kernel, by decide +kernel⟩
theorem ok_Notebook_fresh {f : Addr} {fd : FuncData} {W : NbC} (U : NbT K W) (h_Notebook_holds : HasM P w K mg base CX0 2 W.N "holds" ["self", "number", "fresh"] (spNq K W R_holds0)) (F : FnP K "fresh" "Notebook.fresh" s_Notebook_fresh f fd) (g : Meth K W.N "fresh" f) (T : Tx mg) : HasM P w K mg base CX0 3 W.N "fresh" ["self"] (spNq K W R_fresh0) := by
  have nd := (sc_Notebook_fresh).nd
  refine hasM_p F g (F.bindsN fun _ _ _ _ _ _ us hl => match us, hl with | [_], _ => rfl) sc_Notebook_fresh (by rintro _ _ _ _ ⟨_, _, _, _, _, _, _, rfl, _, _, hd, ⟨rfl, _⟩, _⟩; exact congrArg (· + 1) (dpAll_len hd)) (fun cdv A outer s H vs Q E hr h => ?_)
  obtain ⟨M, B, nb, st, ws, _, o, rfl, hN, hG, hd, ⟨rfl, hrec, rfl⟩, k1, k2⟩ := h
  cases hd
  obtain ⟨dn, c, r, kvs, ad, L⟩ := hN
  refine ⟨_, (pss_cons (ps_set (i := 1) nd rfl (Or.inl rfl) (pe_lst pa_nil))
      (pss_cons (ps_for PassesOwn.never rfl (kSeq (K := K) rfl (kFld (K := K) rfl (pv 0))) (pg_name (i := 2) nd rfl (Or.inl rfl)) (pss_one (ps_if (PW.pt (pw_and (pt_not (kTruth (K := K) rfl (kFld (K := K) rfl (pe_dget (Nat.lt_of_le_of_lt (Nat.add_le_add_left (by decide) _) hr.units) (kFld (K := K) rfl (pv 0)) (pv 2) (fun _ _ => rfl))))) (pw_and1 (kTruth (K := K) rfl (pe_hm (pv 0) U.cN h_Notebook_holds hr (by omega) (passA pass0) (pa_cons (pv 2) (pa_cons (pv 1) pa_nil))))))) (pss_one (ps_expr (pe_bm PySem.F.plainAttrs_list PySem.F.slot_list_append PySem.F.type_list_append mt_append (pv 1) (pa_cons (pv 2) pa_nil)))) pss_nil)))
      (pss_one (ps_ret (pv 1))))), ?_⟩
  refine s_asgL (i := 1) (el_lst ea_nil (by simp)) fun p H1 hp e1 h1 => ?_
  dsimp only
  have L1 := L.ex e1
  refine s_forL (K := K) (evd_of (L1.rowE U (ev_var rfl)) L1.dtRow) (Ex.refl _) fun H2 Hd gr => ?_
  refine ⟨fun i σ' H' => (∃ o2, σ' = [some (.ref nb), some (.ref p), o2]) ∧ Ex Hd H' ∧ Ex H1 H', ⟨⟨none, rfl⟩, gr.d2, gr.ex⟩, fun i σ' H' z => z.2.1, ?_, ?_⟩
  · rintro i v d σ' H' hi hv ⟨⟨o2, rfl⟩, xd, x1⟩
    rw [List.getElem?_map] at hi
    obtain ⟨n, hn, rfl⟩ := Option.map_eq_some_iff.mp hi
    have hn := List.mem_of_getElem? hn
    have ei := dp_int hv
    subst ei
    have L3 := L1.ex x1
    have p3 : H' p = some (.lst []) := x1 _ _ h1
    have pb : B p = none := fresh_back L.x hp
    have x3 : Ex (upd B p (.lst [])) H' := fun a o h => by
      by_cases z : a = p
      · rw [z, upd_same] at h
        cases h
        rw [z]
        exact p3
      · rw [upd_ne z] at h
        exact L3.x _ _ h
    have L4 := L3.base (Ex.new pb) x3 fun a ha => by
      rw [upd_ne (fun z : a = p => (L.m a ha).2 (by rw [z]; exact hp))]
      exact (L.m a ha).1
    refine s_skip (H0 := H') (et_is (et_and (et_not (et_b (L3.struckE U hn (L3.atE U (ev_var rfl) (ev_var rfl) hn)))) fun _ => et_b (evB_bl (evb_q (K := K) (T := W) (st := st) (fun _ _ _ => rfl) (ev_var rfl) L4.toNB hG (ebs_cons ((evd_var (.int _)).toB x3) (ebs_cons ((evd_var (.lst upd_same .nil)).toB x3) (ebs_nil x3))) ⟨n, _, rfl, hn, hrec n hn, rfl⟩))) (Bool.and_false _)) (Ex.refl _) fun H5 e5 => ?_
    exact ⟨⟨_, rfl⟩, xd.trans e5, x1.trans e5⟩
  · rintro σ' H' ⟨⟨o2, rfl⟩, xd, x1⟩
    have pb : B p = none := fresh_back L.x hp
    have p3 : H' p = some (.lst []) := x1 _ _ h1
    show tRet (tVar 1) { nx := fun _ H' => Q .non H', rt := Q } [some (.ref nb), some (.ref p), o2] H'
    refine s_ret (ev_var rfl) fun H5 e5 => ?_
    exact flat_ret (k1 _ rfl) L.x (e1.trans (x1.trans e5)) hp (e5 _ _ p3) .nil rfl
theorem sc_Notebook_state : FnScope ["self", "number"] ["self", "number"] (defScope s_Notebook_state) := ⟨rfl, rfl, rfl, by decide +kernel, rfl, by decide +kernel, by decide +kernel⟩
theorem ok_Notebook_state {f : Addr} {fd : FuncData} {W : NbC} (U : NbT K W) {c_NoCell : Addr} (h_Notebook_fresh : HasM P w K mg base CX0 3 W.N "fresh" ["self"] (spNq K W R_fresh0)) (h_Notebook_look_cell : HasM P w K mg base (L2.CX P w) 2 W.N "look_cell" ["self", "number"] (spNq K W (R_look_cell c_NoCell))) (F : FnP K "state" "Notebook.state" s_Notebook_state f fd) (g : Meth K W.N "state" f) (T : Tx mg) : HasM P w K mg base (L2.CX P w) 4 W.N "state" ["self", "number"] (spNq K W R_state0) := by
  have nd := (sc_Notebook_state).nd
  refine hasM_x F g (F.bindsN fun _ _ _ _ _ _ us hl => match us, hl with | [_, _], _ => rfl) sc_Notebook_state (by rintro _ _ _ _ ⟨_, _, _, _, _, _, _, rfl, _, _, hd, ⟨_, rfl, _⟩, _⟩; exact congrArg (· + 1) (dpAll_len hd)) (fun cdv A outer s H vs Q E hr h => ?_)
  obtain ⟨M, B, nb, st, ws, _, o, rfl, hN, hG, hd, ⟨n, rfl, hn, hst, hrec, rfl⟩, k1, k2⟩ := h
  obtain ⟨v1, rfl, d1⟩ := dts1 hd
  have ei := dp_int d1
  subst ei
  obtain ⟨dn, c, r, kvs, ad, L⟩ := hN
  refine ⟨_, (pss_cons (ps_expr (pe_hm (pv 0) U.cN h_Notebook_look_cell hr (by omega) (passA (passes_call (takes_of rfl rfl rfl rfl) fun _ _ _ _ h => h)) (pa_cons (pv 1) pa_nil)))
      (pss_cons (ps_if (kTruth (K := K) rfl (kFld (K := K) rfl (pe_dget (Nat.lt_of_le_of_lt (Nat.add_le_add_left (by decide) _) hr.units) (kFld (K := K) rfl (pv 0)) (pv 1) (fun _ _ => rfl)))) (pss_one (ps_ret pe_str)) pss_nil)
      (pss_cons (ps_if (pt_cmpR op_isN (kFld (K := K) rfl (pe_dget (Nat.lt_of_le_of_lt (Nat.add_le_add_left (by decide) _) hr.units) (kFld (K := K) rfl (pv 0)) (pv 1) (fun _ _ => rfl))) pe_non (nomark _)) (pss_one (ps_ret pe_str)) pss_nil)
      (pss_one (ps_ret (pe_ifExp (pt_cmpR (kIn (K := K) rfl) (pv 1) (pe_hm0 (pv 0) U.cN h_Notebook_fresh hr (by omega) (passA pass0)) rfl) pe_str pe_str)))))), ?_⟩
  refine s_q (K := K) (T := W) (st := st) (fun _ _ _ => rfl) (ev_var rfl) L.toNB hG (ebs_cons ((evd_var d1).toB L.x) (ebs_nil L.x)) ⟨_, rfl, rfl⟩ (fun z e H1 e1 => ?_) fun cc e H1 e1 => ?_
  rotate_left
  · rw [cell_int hn] at e
    cases e
  have L1 := L.ex e1
  dsimp only
  refine s_skip (H0 := H1) (et_is (et_b (L1.struckE U hn (L1.atE U (ev_var rfl) (ev_var rfl) hn))) hst) (Ex.refl _) fun H2 e2 => ?_
  have L2 := L1.ex e2
  dsimp only
  obtain ⟨rv, h1, h2⟩ := L2.recE U hn (L2.atE U (ta := tVar 0) (ty := tVar 1) (σ := start ["self", "number"] [.ref nb, .int (n : Int)]) (ev_var rfl) (ev_var rfl) hn)
  rw [hrec] at h2
  have h2 : rv = .non := h2
  subst h2
  refine s_yes (H0 := H2) (et_is (et_test (ev_isN h1)) rfl) (Ex.refl _) fun H3 e3 => ?_
  exact s_retD (K := K) (H0 := H3) evd_str (Ex.refl _) fun v H4 Hd g hv => k1 _ rfl v H4 B (Gr.base L.x (((e1.trans e2).trans e3).trans g.ex)) (by rw [dp_str hv]; exact .str _)
theorem sc_Notebook_source : FnScope ["self", "number"] ["self", "number"] (defScope s_Notebook_source) := ⟨rfl, rfl, rfl, by decide +kernel, rfl, by decide +kernel, by decide +kernel⟩
theorem ok_Notebook_source {f : Addr} {fd : FuncData} {W : NbC} (U : NbT K W) {c_NoCell : Addr} (h_Notebook_look_cell : HasM P w K mg base (L2.CX P w) 2 W.N "look_cell" ["self", "number"] (spNq K W (R_look_cell c_NoCell))) (F : FnP K "source" "Notebook.source" s_Notebook_source f fd) (g : Meth K W.N "source" f) (T : Tx mg) : HasM P w K mg base (L2.CX P w) 3 W.N "source" ["self", "number"] (spNq K W (R_source c_NoCell)) := by
  have nd := (sc_Notebook_source).nd
  refine hasM_x F g (F.bindsN fun _ _ _ _ _ _ us hl => match us, hl with | [_, _], _ => rfl) sc_Notebook_source (by rintro _ _ _ _ ⟨_, _, _, _, _, _, _, rfl, _, _, hd, ⟨_, rfl, _⟩, _⟩; exact congrArg (· + 1) (dpAll_len hd)) (fun cdv A outer s H vs Q E hr h => ?_)
  obtain ⟨M, B, nb, st, ws, _, o, rfl, hN, hG, hd, ⟨d, rfl, hf⟩, k1, k2⟩ := h
  obtain ⟨v1, rfl, d1⟩ := dts1 hd
  obtain ⟨dn, c, r, kvs, ad, L⟩ := hN
  refine ⟨_, (pss_cons (ps_expr (pe_hm (pv 0) U.cN h_Notebook_look_cell hr (by omega) (passA (passes_call (takes_of rfl rfl rfl rfl) fun _ _ _ _ h => h)) (pa_cons (pv 1) pa_nil)))
      (pss_one (ps_ret (kFld (K := K) rfl (pe_dget (Nat.lt_of_le_of_lt (Nat.add_le_add_left (by decide) _) hr.units) (kFld (K := K) rfl (pv 0)) (pv 1) (fun _ _ => rfl)))))), ?_⟩
  refine s_q (K := K) (T := W) (st := st) (fun _ _ _ => rfl) (ev_var rfl) L.toNB hG (ebs_cons ((evd_var d1).toB L.x) (ebs_nil L.x)) ⟨d, rfl, rfl⟩ (fun z e H1 e1 => ?_) fun cc e H1 e1 => ?_
  rotate_left
  · rcases hf with ⟨h, ho⟩ | ⟨n, hn, rfl, ho⟩
    · rw [h] at e
      cases e
      exact k2 _ ho H1 e1
    · rw [cell_int hn] at e
      cases e
  · rcases hf with ⟨h, ho⟩ | ⟨n, hn, rfl, ho⟩
    · rw [h] at e
      cases e
    · have L1 := L.ex e1
      have ei := dp_int d1
      subst ei
      have at_ : Ev (tDGet (tFld K (tVar 0) "cells") (tVar 1)) (start ["self", "number"] [.ref nb, .int (n : Int)]) H1 (.ref (ad n)) := L1.atE U (ev_var rfl) (ev_var rfl) hn
      obtain ⟨lv, h1, h2⟩ := L1.linesE U hn at_
      exact s_retB (evb_v L1.x h1 h2) fun v H2 Hd g hv => k1 _ ho v H2 Hd (g.after e1) hv
theorem sc_Notebook_version : FnScope ["self", "number"] ["self", "number"] (defScope s_Notebook_version) := ⟨rfl, rfl, rfl, by decide +kernel, rfl, by decide +kernel, by decide +kernel⟩
theorem ok_Notebook_version {f : Addr} {fd : FuncData} {W : NbC} (U : NbT K W) {c_NoCell : Addr} (h_Notebook_look_cell : HasM P w K mg base (L2.CX P w) 2 W.N "look_cell" ["self", "number"] (spNq K W (R_look_cell c_NoCell))) (F : FnP K "version" "Notebook.version" s_Notebook_version f fd) (g : Meth K W.N "version" f) (T : Tx mg) : HasM P w K mg base (L2.CX P w) 3 W.N "version" ["self", "number"] (spNq K W (R_version c_NoCell)) := by
  have nd := (sc_Notebook_version).nd
  refine hasM_x F g (F.bindsN fun _ _ _ _ _ _ us hl => match us, hl with | [_, _], _ => rfl) sc_Notebook_version (by rintro _ _ _ _ ⟨_, _, _, _, _, _, _, rfl, _, _, hd, ⟨_, rfl, _⟩, _⟩; exact congrArg (· + 1) (dpAll_len hd)) (fun cdv A outer s H vs Q E hr h => ?_)
  obtain ⟨M, B, nb, st, ws, _, o, rfl, hN, hG, hd, ⟨d, rfl, hf⟩, k1, k2⟩ := h
  obtain ⟨v1, rfl, d1⟩ := dts1 hd
  obtain ⟨dn, c, r, kvs, ad, L⟩ := hN
  refine ⟨_, (pss_cons (ps_expr (pe_hm (pv 0) U.cN h_Notebook_look_cell hr (by omega) (passA (passes_call (takes_of rfl rfl rfl rfl) fun _ _ _ _ h => h)) (pa_cons (pv 1) pa_nil)))
      (pss_one (ps_ret (kFld (K := K) rfl (pe_dget (Nat.lt_of_le_of_lt (Nat.add_le_add_left (by decide) _) hr.units) (kFld (K := K) rfl (pv 0)) (pv 1) (fun _ _ => rfl)))))), ?_⟩
  refine s_q (K := K) (T := W) (st := st) (fun _ _ _ => rfl) (ev_var rfl) L.toNB hG (ebs_cons ((evd_var d1).toB L.x) (ebs_nil L.x)) ⟨d, rfl, rfl⟩ (fun z e H1 e1 => ?_) fun cc e H1 e1 => ?_
  rotate_left
  · rcases hf with ⟨h, ho⟩ | ⟨n, hn, rfl, ho⟩
    · rw [h] at e
      cases e
      exact k2 _ ho H1 e1
    · rw [cell_int hn] at e
      cases e
  · rcases hf with ⟨h, ho⟩ | ⟨n, hn, rfl, ho⟩
    · rw [h] at e
      cases e
    · have L1 := L.ex e1
      have ei := dp_int d1
      subst ei
      have at_ : Ev (tDGet (tFld K (tVar 0) "cells") (tVar 1)) (start ["self", "number"] [.ref nb, .int (n : Int)]) H1 (.ref (ad n)) := L1.atE U (ev_var rfl) (ev_var rfl) hn
      exact s_retD (K := K) (evd_i (L1.countE U hn at_)) (Ex.refl _) fun v H2 Hd g hv => k1 _ ho v H2 B (Gr.base L.x (e1.trans g.ex)) (by rw [dp_int hv]; exact .int _)
theorem sc_law_cell : FnScope ["script", "k"] ["script", "k"] (defScope s_law_cell) := ⟨rfl, rfl, rfl, by decide +kernel, rfl, by decide +kernel, by decide +kernel⟩
theorem ok_law_cell {f : Addr} {fd : FuncData} (F : FnP K "_law_cell" "_law_cell" s_law_cell f fd) (g : mg "_law_cell" = some (.ref f)) (T : Tx mg)  : Has P w K mg base CX0 1 "_law_cell" ["script", "k"] (spLcell K) := by
  have nd := (sc_law_cell).nd
  refine has_p F g (F.bindsN fun _ _ _ _ _ _ us hl => match us, hl with | [_, _], _ => rfl) sc_law_cell (by rintro _ _ _ _ ⟨_, _, _, rfl, _⟩; rfl) (fun cdv A outer s H vs Q E hr h => ?_)
  obtain ⟨a, ns, i, rfl, hS, hi, hl, k⟩ := h
  refine ⟨_, (pss_cons (ps_if (pt_cmpR op_lt (pv 1) (pe_callB (kLen (K := K) rfl) rfl (T.free (by decide)) boot_len (pa_cons (pv 0) pa_nil)) (nomark _)) (pss_one (ps_ret (pe_ix (kIx (K := K) rfl) (pv 0) (pv 1) (fun _ _ => rfl)))) pss_nil)
      (pss_one (ps_ret pe_int))), ?_⟩
  refine s_ifD (H0 := H) (b := decide (i < (ns.length : Int))) (et_test (ev_is (ev_op (ev_var rfl) (fun H1 e Q q => ⟨_, rfl, _, ns.length, rfl, .inl ⟨_, ex_l e hS, by rw [List.length_map]⟩, q H1 (Ex.refl H1)⟩) rv_I0) rfl)) (Ex.refl H) (fun hb H1 e1 => ?_) fun hb H1 e1 => ?_
  · have hb := of_decide_eq_true hb
    refine ⟨_, rfl, _, rfl, .inl ⟨a, _, i, .int (cellAt ns i), rfl, rfl, ex_l e1 hS, ?_, k H1 e1⟩⟩
    unfold cellAt
    rw [getD_atI _ _ (.int 0) hi (by rw [List.length_map]; exact hb), List.getD_eq_getElem?_getD, List.getD_eq_getElem?_getD, List.getElem?_map]
    cases ns[i.toNat]? <;> rfl
  · have hb := of_decide_eq_false hb
    have e0 : cellAt ns i = 0 := by
      unfold cellAt
      rw [List.getD_eq_getElem?_getD, List.getElem?_eq_none (by omega)]
      rfl
    rw [e0] at k
    exact k H1 e1
theorem sc_law_seed : FnScope ["seed", "k"] ["seed", "k"] (defScope s_law_seed) := ⟨rfl, rfl, rfl, by decide +kernel, rfl, by decide +kernel, by decide +kernel⟩
theorem ok_law_seed {f : Addr} {fd : FuncData} (F : FnP K "_law_seed" "_law_seed" s_law_seed f fd) (g : mg "_law_seed" = some (.ref f)) (T : Tx mg)  : Has P w K mg base CX0 1 "_law_seed" ["seed", "k"] (spD K F_seed) := by
  have nd := (sc_law_seed).nd
  refine has_d (FF := F_seed) F g (F.bindsN fun _ _ _ _ _ _ us hl => match us, hl with | [_, _], _ => rfl) sc_law_seed (by rintro _ _ ⟨_, _, rfl, _⟩; rfl) (fun cdv A outer s H vs Q E ds d H0 hr x hd hf k => ?_)
  obtain ⟨a, b, rfl, rfl⟩ := hf
  obtain ⟨v0, v1, rfl, d0, d1⟩ := dts2 hd
  refine ⟨_, (pss_one (ps_ret (pe_op op_mod (pe_op op_pow (pe_op op_mod (pe_op (kAdd (K := K) rfl) (pe_op (kAdd (K := K) rfl) (pe_op (kMul (K := K) rfl) (pv 0) pe_int) (pe_op (kMul (K := K) rfl) pe_int (pv 1))) pe_int) pe_int) pe_int) pe_int))), ?_⟩
  have m0 : ((a * 1103515245 + 7919 * b + 12345) % 2147483647).natAbs < 2 ^ 64 := by
    have h := mod_lt10 (a * 1103515245 + 7919 * b + 12345) 2147483647 (by omega)
    omega
  exact s_retD (evd_i (ev_I (K := K) (C := fun _ j => 0 < j) (g := fun i j => .int (i % j)) (evd_i (ev_I (K := K) (C := CPow) (g := fun i j => .int (i ^ j.toNat)) (evd_i (ev_I (K := K) (C := fun _ j => 0 < j) (g := fun i j => .int (i % j))
    (ev_addI (ev_addI (evd_mulI (evd_var d0) evd_int (.inr (by decide))) (evd_mulI evd_int (evd_var d1) (.inl (by decide)))) evd_int) evd_int (by decide))) evd_int ⟨by decide, by decide, m0⟩)) evd_int (by decide))) x k
theorem sc_law_pick : FnScope ["seed", "many"] ["seed", "many"] (defScope s_law_pick) := ⟨rfl, rfl, rfl, by decide +kernel, rfl, by decide +kernel, by decide +kernel⟩
theorem ok_law_pick {f : Addr} {fd : FuncData} (F : FnP K "_law_pick" "_law_pick" s_law_pick f fd) (g : mg "_law_pick" = some (.ref f)) (T : Tx mg)  : Has P w K mg base CX0 1 "_law_pick" ["seed", "many"] (spD K F_pick) := by
  have nd := (sc_law_pick).nd
  refine has_d (FF := F_pick) F g (F.bindsN fun _ _ _ _ _ _ us hl => match us, hl with | [_, _], _ => rfl) sc_law_pick (by rintro _ _ ⟨_, _, rfl, _⟩; rfl) (fun cdv A outer s H vs Q E ds d H0 hr x hd hf k => ?_)
  obtain ⟨a, b, rfl, hb, rfl⟩ := hf
  obtain ⟨v0, v1, rfl, d0, d1⟩ := dts2 hd
  refine ⟨_, (pss_one (ps_ret (pe_op op_mod (pe_op op_fdiv (pv 0) pe_int) (pv 1)))), ?_⟩
  exact s_retD (evd_i (ev_I (C := fun _ j => 0 < j) (g := fun i j => .int (i % j)) (evd_i (K := K) (ev_I (C := CDiv) (g := fun i j => .int (i / j)) (evd_var d0) (evd_int (i := 97)) ⟨by decide, by decide⟩)) (evd_var d1) hb)) x k
theorem sc_law_sum : FnScope ["seed", "deep", "some", "parts", "k", "word"] ["seed", "deep"] (defScope s_law_sum) := ⟨rfl, rfl, rfl, by decide +kernel, rfl, by decide +kernel, by decide +kernel⟩
theorem step_law_sum {f : Addr} {fd : FuncData} (F : FnP K "_law_sum" "_law_sum" s_law_sum f fd) (g : mg "_law_sum" = some (.ref f)) (T : Tx mg) (n : Nat) (h__law_sum : Has P w K mg base CX0 (n + 1) "_law_sum" ["seed", "deep"] (spD K (Fprev F_lsum n))) (h__law_seed : Has P w K mg base CX0 1 "_law_seed" ["seed", "k"] (spD K F_seed)) (h__law_pick : Has P w K mg base CX0 1 "_law_pick" ["seed", "many"] (spD K F_pick)) : HasF P w K mg base CX0 (n + 2) "_law_sum" ["seed", "deep"] (spD K (F_lsum n)) f fd := by
  have nd := (sc_law_sum).nd
  refine hasF_d (FF := F_lsum n) F g (F.bindsN fun _ _ _ _ _ _ us hl => match us, hl with | [_, _], _ => rfl) sc_law_sum (by rintro _ _ ⟨_, rfl, _⟩; rfl) (fun cdv A outer s H vs Q E ds d H0 hr x hd hf k => ?_)
  obtain ⟨a, rfl, rfl⟩ := hf
  obtain ⟨v0, v1, rfl, d0, d1⟩ := dts2 hd
  refine ⟨_, (pss_cons (ps_if (PW.pt (pw_or (pt_cmpR op_lt (pv 1) pe_int (nomark _)) (pw_or1 (pt_cmpR (kEq (K := K) rfl hr.units) (pe_has h__law_pick hr (by omega) rfl pass0 (pa_cons (pv 0) (pa_cons pe_int pa_nil))) pe_int (nomark _))))) (pss_cons (ps_set (i := 2) nd rfl (Or.inl rfl) (pe_lst (pa_cons (pe_op op_mod (pe_op op_fdiv (pv 0) pe_int) pe_int) (pa_cons (pe_op op_mod (pe_op op_fdiv (pv 0) pe_int) pe_int) (pa_cons (pe_op op_mod (pe_op op_fdiv (pv 0) pe_int) pe_int) (pa_cons pe_int pa_nil))))))
      (pss_one (ps_ret (pe_ix (kIx (K := K) rfl) (pe_op (kAdd (K := K) rfl) (pv 2) (pe_lst (pa_cons pe_str (pa_cons pe_str (pa_cons pe_str (pa_cons pe_str (pa_cons pe_str (pa_cons pe_str pa_nil)))))))) (pe_op op_mod (pe_op op_fdiv (pv 0) pe_int) pe_int) (fun _ _ => rfl))))) pss_nil)
      (pss_cons (ps_setLc (i := 3) (own := [("k", 4)]) rfl nd rfl rfl (sw_true rfl rfl rfl (by decide +kernel)) (pi_range1 rfl (T.free (by decide)) (pa_cons pe_int pa_nil)) (blkOk_by (N := ["seed", "deep", "some", "parts", "k", "word"]) (sc := defScope s_law_sum) (own := [("k", 4)]) (by decide +kernel)) (fun _ _ _ _ _ => (pg_name (i := 4) nd rfl (Or.inl rfl))) (fun _ _ _ _ _ => pts_nil) (fun _ _ _ _ _ => (pe_has h__law_sum hr (by omega) rfl pass0 (pa_cons (pe_has h__law_seed hr (by omega) rfl pass0 (pa_cons (pv 0) (pa_cons (pv 4) pa_nil))) (pa_cons (pe_op op_sub (pv 1) pe_int) pa_nil)))))
      (pss_cons (ps_set (i := 5) nd rfl (Or.inl rfl) (pe_ix (kIx (K := K) rfl) (pe_lst (pa_cons pe_str (pa_cons pe_str (pa_cons pe_str (pa_cons pe_str (pa_cons pe_str (pa_cons pe_str (pa_cons pe_str pa_nil)))))))) (pe_op op_mod (pe_op op_fdiv (pv 0) pe_int) pe_int) (fun _ _ => rfl)))
      (pss_one (ps_ret (pe_ifExp (pt_cmpR (kEq (K := K) rfl hr.units) (pv 5) pe_str (nomark _)) (pe_tup (pa_cons pe_str (pa_cons (pe_ix (kIx (K := K) rfl) (pv 3) pe_int (fun _ _ => rfl)) (pa_cons (pe_ix (kIx (K := K) rfl) (pv 3) pe_int (fun _ _ => rfl)) (pa_cons (pe_ix (kIx (K := K) rfl) (pv 3) pe_int (fun _ _ => rfl)) pa_nil))))) (pe_tup (pa_cons (pv 5) (pa_cons (pe_ix (kIx (K := K) rfl) (pv 3) pe_int (fun _ _ => rfl)) (pa_cons (pe_ix (kIx (K := K) rfl) (pv 3) pe_int (fun _ _ => rfl)) pa_nil)))))))))), ?_⟩
  have k : Rt K H0 H (lawSum n a).enc Q := k
  have hp : EvT (tTest (tOp (rEqD K) (tCall (spD K F_pick) [] E0 (tCons (tVar 0) (tCons (tC (.int 3)) tNil))) (tC (.int 0)))) (start ["seed", "deep", "some", "parts", "k", "word"] [v0, v1]) H0 (decide (a / 97 % 3 = 0)) := et_is (et_test (ev_eq (evd_call (eds_cons (evd_var d0) (eds_cons evd_int eds_nil)) ⟨a, 3, rfl, by decide, rfl⟩) evd_int rfl rfl)) (by show ((a / 97 % 3) == (0 : Int)) = _; rfl)
  refine s_ifD (b := decide (n = 0) || decide (a / 97 % 3 = 0)) (et_or (et_is (et_test (ev_I0 (K := K) (evd_var d1) evd_int)) (by rw [Bool.eq_iff_iff]; simp; omega)) fun _ => hp) x (fun hb H1 e1 => ?_) fun hb H1 e1 => ?_
  · have el : lawSum n a = lawLeaf a := by
      cases n with
      | zero => rfl
      | succ n =>
        have : a / 97 % 3 = 0 := by simpa using hb
        show (if a / 97 % 3 = 0 then lawLeaf a else _) = lawLeaf a
        rw [if_pos this]
    rw [el] at k
    have k1 := k.go e1
    refine s_asgD (K := K) (d := .list [.int (a / 7 % 10), .int (a / 7 % 4), .int (a / 7 % 10000), .int 0]) (evd_lst (eds_cons (evd_i (ev_I (K := K) (C := fun _ j => 0 < j) (g := fun i j => .int (i % j)) (evd_i (ev_I (K := K) (C := CDiv) (g := fun i j => .int (i / j)) (evd_var d0) evd_int ⟨by decide, by decide⟩)) evd_int (by decide)))
      (eds_cons (evd_i (ev_I (K := K) (C := fun _ j => 0 < j) (g := fun i j => .int (i % j)) (evd_i (ev_I (K := K) (C := CDiv) (g := fun i j => .int (i / j)) (evd_var d0) evd_int ⟨by decide, by decide⟩)) evd_int (by decide)))
      (eds_cons (evd_i (ev_I (K := K) (C := fun _ j => 0 < j) (g := fun i j => .int (i % j)) (evd_i (ev_I (K := K) (C := CDiv) (g := fun i j => .int (i / j)) (evd_var d0) evd_int ⟨by decide, by decide⟩)) evd_int (by decide))) (eds_cons evd_int eds_nil)))) (by simp)) (x.trans e1) fun v H2 Hd g hv => ?_
    have h5 := mod_lt10 (a / 5) 10 (by omega)
    refine (k1.seq g).ret g.d2 (evd_ixL (ds := (leafs a).map Sm.enc) (evd_addL (evd_var hv) (evd_lst (eds_cons evd_str (eds_cons evd_str (eds_cons evd_str (eds_cons evd_str (eds_cons evd_str (eds_cons evd_str eds_nil)))))) (by simp)) (by simp))
      (evd_i (ev_I (K := K) (C := fun _ j => 0 < j) (g := fun i j => .int (i % j)) (evd_i (ev_I (K := K) (C := CDiv) (g := fun i j => .int (i / j)) (evd_var (dp_ex g.xd _ _ d0)) evd_int ⟨by decide, by decide⟩)) evd_int (by decide))) (getD_atI _ _ (.int 0) h5.1 (by show _ < ((10 : Nat) : Int); omega))) ?_
    unfold lawLeaf
    rw [List.getD_eq_getElem?_getD, List.getD_eq_getElem?_getD, List.getElem?_map]
    cases (leafs a)[(a / 5 % 10).toNat]? <;> rfl
  · rw [Bool.or_eq_false_iff] at hb
    obtain ⟨m, rfl⟩ : ∃ m, n = m + 1 := ⟨n - 1, by have := of_decide_eq_false hb.1; omega⟩
    have hn : ¬ a / 97 % 3 = 0 := of_decide_eq_false hb.2
    have k1 := k.go e1
    refine s_asgD (K := K) (d := .list [(lawSum m (seedF a 0)).enc, (lawSum m (seedF a 1)).enc, (lawSum m (seedF a 2)).enc]) (evd_is (evd_lcR (n := 3) (fun k => (lawSum m (seedF a (k : Int))).enc) (eds_cons evd_int eds_nil) (by decide) (fun _ => rfl) fun i A e hi => evd_call (eds_cons (evd_call (eds_cons (evd_var (dp_ex e _ _ d0)) (eds_cons (evd_var (.int _)) eds_nil)) ⟨a, (i : Int), rfl, rfl⟩) (eds_cons (evd_i (ev_is (ev_I0 (K := K) (evd_var (dp_ex e _ _ d1)) evd_int) ?_)) eds_nil)) ⟨seedF a (i : Int), rfl, rfl⟩) rfl) (x.trans e1) fun v H2 Hd g hv => ?_
    · show V.int (((m + 1 : Nat) : Int) - 1) = V.int (m : Int)
      congr 1
      omega
    have k2 := k1.seq g
    have h7 := mod_lt10 (a / 11) 7 (by omega)
    refine s_asgD (K := K) (d := .str (lawWord a)) (evd_is (evd_ixL (ds := lawWords.map PyData.str) (evd_lst (eds_cons evd_str (eds_cons evd_str (eds_cons evd_str (eds_cons evd_str (eds_cons evd_str (eds_cons evd_str (eds_cons evd_str eds_nil))))))) (by decide)) (evd_i (ev_I (K := K) (C := fun _ j => 0 < j) (g := fun i j => .int (i % j)) (evd_i (ev_I (K := K) (C := CDiv) (g := fun i j => .int (i / j)) (evd_var (dp_ex g.xd _ _ d0)) evd_int ⟨by decide, by decide⟩)) evd_int (by decide))) (getD_atI _ _ (.str "add") h7.1 (by show _ < ((7 : Nat) : Int); omega))) ?_) g.d2 fun v2 H3 Hd2 g2 hv2 => ?_
    · unfold lawWord
      rw [List.getD_eq_getElem?_getD, List.getD_eq_getElem?_getD, List.getElem?_map]
      cases lawWords[(a / 11 % 7).toNat]? <;> rfl
    have k3 := k2.seq g2
    have hv3 := dp_ex g2.xd _ _ hv
    have eS : lawSum (m + 1) a = if lawWord a = "if" then .ite (lawSum m (seedF a 0)) (lawSum m (seedF a 1)) (lawSum m (seedF a 2)) else .op (lawWord a) (lawSum m (seedF a 0)) (lawSum m (seedF a 1)) := by
      show (if a / 97 % 3 = 0 then _ else _) = _
      rw [if_neg hn]
    rw [eS] at k3
    have okw : SeqAt.shaped (PyData.str (lawWord a)) = true := by
      have q : lawWords.all (fun w => SeqAt.shaped (PyData.str w)) = true := by decide +kernel
      exact List.all_eq_true.mp q _ (word_mem a)
    refine k3.ret g2.d2 (evd_if (b := decide (lawWord a = "if")) (et_is (et_test (ev_eq (evd_var hv2) evd_str okw (by decide +kernel))) (by show (lawWord a == ("if" : Str)) = _; rfl)) (fun hw => ?_) fun hw => ?_) rfl
    · rw [if_pos (of_decide_eq_true hw)]
      exact evd_tup (eds_cons evd_str (eds_cons (evd_ixL (evd_var hv3) evd_int (atI_0 _ _)) (eds_cons (evd_ixL (evd_var hv3) evd_int (atI_1 _ _ _)) (eds_cons (evd_ixL (evd_var hv3) evd_int (atI_2 _ _ _ _)) eds_nil)))) (by simp)
    · rw [if_neg (of_decide_eq_false hw)]
      exact evd_tup (eds_cons (evd_var hv2) (eds_cons (evd_ixL (evd_var hv3) evd_int (atI_0 _ _)) (eds_cons (evd_ixL (evd_var hv3) evd_int (atI_1 _ _ _)) eds_nil))) (by simp)
theorem all_law_sum {f : Addr} {fd : FuncData} (F : FnP K "_law_sum" "_law_sum" s_law_sum f fd) (g : mg "_law_sum" = some (.ref f)) (T : Tx mg)  (h__law_seed : Has P w K mg base CX0 1 "_law_seed" ["seed", "k"] (spD K F_seed)) (h__law_pick : Has P w K mg base CX0 1 "_law_pick" ["seed", "many"] (spD K F_pick)) : ∀ n : Nat, HasF P w K mg base CX0 (n + 2) "_law_sum" ["seed", "deep"] (spD K (F_lsum n)) f fd
  | 0 => step_law_sum F g T 0 (h__law_sum := has_never F g (F.bindsN fun _ _ _ _ _ _ us hl => match us, hl with | [_, _], _ => rfl) _ fun _ _ z => z) (h__law_seed := h__law_seed) (h__law_pick := h__law_pick)
  | n + 1 => step_law_sum F g T (n + 1) (h__law_sum := (all_law_sum F g T (h__law_seed := h__law_seed) (h__law_pick := h__law_pick) n).has) (h__law_seed := h__law_seed) (h__law_pick := h__law_pick)
theorem ok_law_sum {f : Addr} {fd : FuncData} (F : FnP K "_law_sum" "_law_sum" s_law_sum f fd) (g : mg "_law_sum" = some (.ref f)) (T : Tx mg)  (h__law_seed : Has P w K mg base CX0 1 "_law_seed" ["seed", "k"] (spD K F_seed)) (h__law_pick : Has P w K mg base CX0 1 "_law_pick" ["seed", "many"] (spD K F_pick)) : Has P w K mg base CX0 8 "_law_sum" ["seed", "deep"] (spD K (FU F_lsum 6)) :=
  HasF.union (j := 2) 6 fun n => all_law_sum F g T (h__law_seed := h__law_seed) (h__law_pick := h__law_pick) n
theorem sc_law_source : FnScope ["seed", "found", "k", "one", "some"] ["seed"] (defScope s_law_source) := ⟨rfl, rfl, rfl, by decide +kernel, rfl, by decide +kernel, by decide +kernel⟩
theorem ok_law_source {f : Addr} {fd : FuncData} (F : FnP K "_law_source" "_law_source" s_law_source f fd) (g : mg "_law_source" = some (.ref f)) (T : Tx mg) (h__law_pick : Has P w K mg base CX0 1 "_law_pick" ["seed", "many"] (spD K F_pick)) (h__law_sum : Has P w K mg base CX0 8 "_law_sum" ["seed", "deep"] (spD K (FU F_lsum 6))) (h__law_seed : Has P w K mg base CX0 1 "_law_seed" ["seed", "k"] (spD K F_seed)) : Has P w K mg base CX0 9 "_law_source" ["seed"] (spD K F_lsource) := by
  have nd := (sc_law_source).nd
  refine has_d (FF := F_lsource) F g (F.bindsN fun _ _ _ _ _ _ us hl => match us, hl with | [_], _ => rfl) sc_law_source (by rintro _ _ ⟨_, rfl, _⟩; rfl) (fun cdv A outer s H vs Q E ds d H0 hr x hd hf k => ?_)
  obtain ⟨a, rfl, rfl⟩ := hf
  obtain ⟨v0, rfl, d0⟩ := dts1 hd
  refine ⟨_, (pss_cons (ps_set (i := 1) nd rfl (Or.inl rfl) (pe_lst pa_nil))
      (pss_cons (ps_for PassesOwn.never rfl (pi_range1 rfl (T.free (by decide)) (pa_cons (pe_ix (kIx (K := K) rfl) (pe_lst (pa_cons (pe_op op_mod (pe_op op_fdiv (pv 0) pe_int) pe_int) (pa_cons (pe_op (kAdd (K := K) rfl) pe_int (pe_op op_mod (pe_op op_fdiv (pv 0) pe_int) pe_int)) (pa_cons (pe_op op_mod (pe_op op_fdiv (pv 0) pe_int) pe_int) pa_nil)))) (pe_op op_mod (pe_op op_fdiv (pv 0) pe_int) pe_int) (fun _ _ => rfl)) pa_nil)) (pg_name (i := 2) nd rfl (Or.inl rfl)) (pss_cons (ps_set (i := 3) nd rfl (Or.inl rfl) (pe_has h__law_seed hr (by omega) rfl pass0 (pa_cons (pv 0) (pa_cons (pe_op (kAdd (K := K) rfl) pe_int (pv 2)) pa_nil))))
      (pss_cons (ps_set (i := 4) nd rfl (Or.inl rfl) (pe_has h__law_sum hr (by omega) rfl pass0 (pa_cons (pe_has h__law_seed hr (by omega) rfl pass0 (pa_cons (pv 3) (pa_cons pe_int pa_nil))) (pa_cons (pe_ix (kIx (K := K) rfl) (pe_lst (pa_cons (pe_op op_mod (pe_op op_fdiv (pv 3) pe_int) pe_int) (pa_cons pe_int pa_nil))) (pe_callTy call_int1 rfl (T.free (by decide)) boot_int (pa_cons (pe_cmpR (kEq (K := K) rfl hr.units) (pe_op op_mod (pe_op op_fdiv (pv 3) pe_int) pe_int) pe_int (nomark _)) pa_nil)) (fun _ _ => rfl)) pa_nil))))
      (pss_one (ps_if (pt_cmpR op_gt (pe_has h__law_pick hr (by omega) rfl pass0 (pa_cons (pv 3) (pa_cons pe_int pa_nil))) pe_int (nomark _)) (pss_one (ps_expr (pe_bm PySem.F.plainAttrs_list PySem.F.slot_list_append PySem.F.type_list_append mt_append (pv 1) (pa_cons (pe_tup (pa_cons pe_str (pa_cons (pe_ix (kIx (K := K) rfl) (pe_lst (pa_cons pe_str (pa_cons pe_str (pa_cons pe_str (pa_cons pe_str pa_nil))))) (pe_op op_mod (pe_op op_fdiv (pv 3) pe_int) pe_int) (fun _ _ => rfl)) (pa_cons (pv 4) pa_nil)))) pa_nil)))) (pss_one (ps_expr (pe_bm PySem.F.plainAttrs_list PySem.F.slot_list_append PySem.F.type_list_append mt_append (pv 1) (pa_cons (pe_tup (pa_cons pe_str (pa_cons (pv 4) pa_nil))) pa_nil)))))))))
      (pss_one (ps_ret (pe_callTy (kTup (K := K) rfl) rfl (T.free (by decide)) boot_tuple (pa_cons (pv 1) pa_nil)))))), ?_⟩
  have k : Rt K H0 H (encS (lawSource a)) Q := k
  have h3 := mod_lt10 (a / 11) 3 (by omega)
  have m1 := mod_lt10 (a / 7) 4 (by omega)
  have m2 := mod_lt10 (a / 7) 3 (by omega)
  have m3 := mod_lt10 (a / 7) 9 (by omega)
  refine s_new (K := K) (i := 1) eds_nil x fun p H2 hp ac => ?_
  have hp0 : H0 p = none := fresh_back x hp
  have many : ([.int (a / 7 % 4), .int (1 + a / 7 % 3), .int (a / 7 % 9)] : List PyData).getD (a / 11 % 3).toNat (.int 0) = .int (lawMany a : Int) := by
    unfold lawMany
    have hc : (a / 11 % 3).toNat = 0 ∨ (a / 11 % 3).toNat = 1 ∨ (a / 11 % 3).toNat = 2 := by omega
    rcases hc with e | e | e <;> rw [e] <;> simp <;> omega
  refine s_forN (K := K) (H0 := H0) (n := lawMany a) (eds_cons (evd_is (evd_ixL (evd_lst (eds_cons (evd_i (ev_I (K := K) (C := fun _ j => 0 < j) (g := fun i j => .int (i % j)) (evd_i (ev_I (K := K) (C := CDiv) (g := fun i j => .int (i / j)) (evd_var d0) evd_int ⟨by decide, by decide⟩)) evd_int (by decide)))
    (eds_cons (ev_addI evd_int (evd_i (ev_I (K := K) (C := fun _ j => 0 < j) (g := fun i j => .int (i % j)) (evd_i (ev_I (K := K) (C := CDiv) (g := fun i j => .int (i / j)) (evd_var d0) evd_int ⟨by decide, by decide⟩)) evd_int (by decide))))
    (eds_cons (evd_i (ev_I (K := K) (C := fun _ j => 0 < j) (g := fun i j => .int (i % j)) (evd_i (ev_I (K := K) (C := CDiv) (g := fun i j => .int (i / j)) (evd_var d0) evd_int ⟨by decide, by decide⟩)) evd_int (by decide))) eds_nil))) (by simp))
    (evd_i (ev_I (K := K) (C := fun _ j => 0 < j) (g := fun i j => .int (i % j)) (evd_i (ev_I (K := K) (C := CDiv) (g := fun i j => .int (i / j)) (evd_var d0) evd_int ⟨by decide, by decide⟩)) evd_int (by decide))) (getD_atI _ _ (.int 0) h3.1 (by show _ < ((3 : Nat) : Int); omega))) many) eds_nil) ac.base (by have := lawMany_le a; omega)
    (fun i σ' H' => (∃ o1 o2 o3, σ' = [some v0, some (.ref p), o1, o2, o3]) ∧ Acc K H0 H p (((List.range i).map fun k : Nat => lawRow (seedF a (20 + (k : Int)))).map Rw.enc) H') (fun H3 e3 => ⟨⟨none, none, none, rfl⟩, ac.grow e3⟩) ?_ ?_
  · rintro i σ' H' hi ⟨⟨o1, o2, o3, rfl⟩, q⟩
    have hm := lawMany_le a
    have hlen : (((List.range i).map fun k : Nat => lawRow (seedF a (20 + (k : Int)))).map Rw.enc).length < 100000 := by
      rw [List.length_map, List.length_map, List.length_range]
      omega
    have e0 : (((List.range (i + 1)).map fun k : Nat => lawRow (seedF a (20 + (k : Int)))).map Rw.enc) = ((List.range i).map fun k : Nat => lawRow (seedF a (20 + (k : Int)))).map Rw.enc ++ [(lawRow (seedF a (20 + (i : Int)))).enc] := by
      rw [List.range_succ, List.map_append, List.map_append] <;> rfl
    refine s_asgD (K := K) (d := .int (seedF a (20 + (i : Int)))) (evd_call (eds_cons (evd_var d0) (eds_cons (ev_addI evd_int (evd_var (.int _))) eds_nil)) ⟨a, _, rfl, rfl⟩) q.base fun v H3 Hd g hv => ?_
    have ev := dp_int hv
    subst ev
    generalize seedF a (20 + (i : Int)) = one at *
    have md := lawDeep_le one
    have n7 := mod_lt10 (one / 7) 3 (by omega)
    have n9 := mod_lt10 (one / 13) 9 (by omega)
    have deep : ([.int (one / 7 % 3), .int 6] : List PyData).getD (if decide (one / 13 % 9 = 0) = true then (1 : Int) else 0).toNat (.int 0) = .int (lawDeep one : Int) := by
      unfold lawDeep
      by_cases hz : one / 13 % 9 = 0
      · rw [if_pos (decide_eq_true hz), if_pos hz]
        rfl
      · rw [if_neg (by simp [hz]), if_neg hz]
        show PyData.int _ = PyData.int _
        congr 1
        omega
    refine s_asgD (K := K) (H0 := H0) (d := (lawSum (lawDeep one) (seedF one 1)).enc) (evd_call (eds_cons (evd_call (eds_cons (evd_var (.int one)) (eds_cons evd_int eds_nil)) ⟨one, 1, rfl, rfl⟩) (eds_cons (evd_is (evd_ixL (evd_lst (eds_cons (evd_i (ev_I (K := K) (C := fun _ j => 0 < j) (g := fun i j => .int (i % j)) (evd_i (ev_I (K := K) (C := CDiv) (g := fun i j => .int (i / j)) (evd_var (.int one)) evd_int ⟨by decide, by decide⟩)) evd_int (by decide))) (eds_cons evd_int eds_nil)) (by simp))
      (evd_i (ev_intB (b := decide (one / 13 % 9 = 0)) (ev_is (ev_eq (evd_i (ev_I (K := K) (C := fun _ j => 0 < j) (g := fun i j => .int (i % j)) (evd_i (ev_I (K := K) (C := CDiv) (g := fun i j => .int (i / j)) (evd_var (.int one)) evd_int ⟨by decide, by decide⟩)) evd_int (by decide))) evd_int rfl rfl) rfl))) (getD_atI _ _ (.int 0) (by split <;> omega) (by show _ < ((2 : Nat) : Int); split <;> omega))) deep) eds_nil)) ⟨lawDeep one, md, _, rfl, rfl⟩) (q.base.trans g.ex) fun v2 H4 Hd2 g2 hv2 => ?_
    have hpd : Hd2 p = none := g2.fr p hp0 (ne_none g.ex q.own)
    have q4 := (((q.grow g.ex).grow g2.ex).rebase g2.xd g2.d2 hpd)
    have fin : ∀ H5, Acc K Hd2 H p (((List.range i).map fun k : Nat => lawRow (seedF a (20 + (k : Int)))).map Rw.enc ++ [(lawRow one).enc]) H5 → Acc K H0 H p (((List.range (i + 1)).map fun k : Nat => lawRow (seedF a (20 + (k : Int)))).map Rw.enc) H5 := fun H5 z => by
      rw [e0]
      exact z.debase g2 (q.1.trans g.ex)
    dsimp only
    refine s_ifD (H0 := Hd2) (b := decide (0 < one / 97 % 3)) (et_is (et_test (ev_I0 (K := K) (evd_call (eds_cons (evd_var (.int one)) (eds_cons evd_int eds_nil)) ⟨one, 3, rfl, by decide, rfl⟩) evd_int)) rfl) g2.d2 (fun hb H5 e5 => ?_) fun hb H5 e5 => ?_
    · have hb := of_decide_eq_true hb
      have h11 := mod_lt10 (one / 11) 4 (by omega)
      have er : lawRow one = .set (lawName one) (lawSum (lawDeep one) (seedF one 1)) := if_pos hb
      refine s_app (K := K) (i := 1) (p := p) rfl (q4.grow e5) hpd hp (d := (lawRow one).enc) (evd_is (evd_tup (eds_cons evd_str (eds_cons (evd_is (evd_ixL (ds := (["a", "b", "c", "wxyz"] : List Str).map PyData.str) (evd_lst (eds_cons evd_str (eds_cons evd_str (eds_cons evd_str (eds_cons evd_str eds_nil)))) (by decide)) (evd_i (ev_I (K := K) (C := fun _ j => 0 < j) (g := fun i j => .int (i % j)) (evd_i (ev_I (K := K) (C := CDiv) (g := fun i j => .int (i / j)) (evd_var (.int one)) evd_int ⟨by decide, by decide⟩)) evd_int (by decide))) (getD_atI _ _ (.str "a") h11.1 (by show _ < ((4 : Nat) : Int); omega))) (d' := .str (lawName one)) ?_) (eds_cons (evd_var hv2) eds_nil))) (by simp)) (by rw [er]; rfl)) hlen fun H6 q6 _ => ⟨⟨_, _, _, rfl⟩, fin H6 q6⟩
      unfold lawName
      rw [List.getD_eq_getElem?_getD, List.getD_eq_getElem?_getD, List.getElem?_map]
      cases (["a", "b", "c", "wxyz"] : List Str)[(one / 11 % 4).toNat]? <;> rfl
    · have hb := of_decide_eq_false hb
      have er : lawRow one = .shw (lawSum (lawDeep one) (seedF one 1)) := if_neg hb
      exact s_app (K := K) (i := 1) (p := p) rfl (q4.grow e5) hpd hp (d := (lawRow one).enc) (evd_is (evd_tup (eds_cons evd_str (eds_cons (evd_var hv2) eds_nil)) (by simp)) (by rw [er]; rfl)) hlen fun H6 q6 _ => ⟨⟨_, _, _, rfl⟩, fin H6 q6⟩
  · rintro σ' H' ⟨⟨o1, o2, o3, rfl⟩, q⟩
    obtain ⟨Hd, g1, g2⟩ := q.done (H := H0) (H1 := H) (Ex.refl _) (fun _ h _ => h) (Ex.refl _) hp
    exact (k.seq g1).ret g1.d2 (evd_tupL (evd_var g2)) rfl
theorem sc_law : FnScope ["script", "notebook", "many", "sources", "k", "versions", "seen", "seed", "hand", "number", "one", "source", "caught", "told"] ["script"] (defScope s_law) := ⟨rfl, rfl, rfl, by decide +kernel, rfl, by decide +kernel, by decide +kernel⟩
theorem ok_law {f : Addr} {fd : FuncData} (F : FnP K "law" "law" s_law f fd) (g : mg "law" = some (.ref f)) (T : Tx mg) {W : NbC} (U : NbT K W) (h_Notebook_state : HasM P w K mg base (L2.CX P w) 4 W.N "state" ["self", "number"] (spNq K W R_state0)) (h_Notebook_fresh : HasM P w K mg base CX0 3 W.N "fresh" ["self"] (spNq K W R_fresh0)) (h__law_cell : Has P w K mg base CX0 1 "_law_cell" ["script", "k"] (spLcell K)) (h_Notebook_source : HasM P w K mg base (L2.CX P w) 3 W.N "source" ["self", "number"] (spNq K W (R_source c_NoCell))) (h_Notebook_version : HasM P w K mg base (L2.CX P w) 3 W.N "version" ["self", "number"] (spNq K W (R_version c_NoCell))) (h__law_pick : Has P w K mg base CX0 1 "_law_pick" ["seed", "many"] (spD K F_pick)) {c_Behind : Addr} (x_Behind : ExcF K mg "Behind" c_Behind) (e_Behind_Behind : PySem.W.exmOne K (.ref c_Behind) (.ref c_Behind) = some true) (h_Notebook_change : HasM P w K mg base (L2.CX P w) 12 W.N "change" ["self", "number", "version", "source"] (spNb K W (R_change c_NoCell c_BadNumber c_BadSource c_Behind))) (h__law_source : Has P w K mg base CX0 9 "_law_source" ["seed"] (spD K F_lsource)) (h__law_seed : Has P w K mg base CX0 1 "_law_seed" ["seed", "k"] (spD K F_seed)) (h_Notebook_put : HasM P w K mg base (L2.CX P w) 12 W.N "put" ["self", "place", "source"] (spNb K W (R_put c_BadNumber c_BadSource c_Full))) (i_Notebook : HasI P w K mg base CX0 1 W.N "Notebook" ["self"] (spNbI K W)) : HasF P w K mg base CX0 30 "law" ["script"] (spLaw K) f fd := by
  have nd := (sc_law).nd
  refine hasF_p F g (F.bindsN fun _ _ _ _ _ _ us hl => match us, hl with | [_], _ => rfl) sc_law (by rintro _ _ _ _ ⟨_, _, rfl, _⟩; rfl) (fun cdv A outer s H vs Q E hr h => ?_)
  obtain ⟨a, ns, rfl, hS, hl, k⟩ := h
  refine ⟨_, (pss_cons (ps_set (i := 1) nd rfl (Or.inr rfl) (pe_mk0 i_Notebook hr (by omega) rfl pass0))
      (pss_cons (ps_set (i := 2) nd rfl (Or.inl rfl) (pe_op (kAdd (K := K) rfl) pe_int (pe_op op_mod (pe_has h__law_cell hr (by omega) rfl pass0 (pa_cons (pv 0) (pa_cons pe_int pa_nil))) pe_int)))
      (pss_cons (ps_setLc (i := 3) (own := [("k", 4)]) rfl nd rfl rfl (sw_true rfl rfl rfl (by decide +kernel)) (pi_range1 rfl (T.free (by decide)) (pa_cons (pv 2) pa_nil)) (blkOk_by (N := ["script", "notebook", "many", "sources", "k", "versions", "seen", "seed", "hand", "number", "one", "source", "caught", "told"]) (sc := defScope s_law) (own := [("k", 4)]) (by decide +kernel)) (fun _ _ _ _ _ => (pg_name (i := 4) nd rfl (Or.inl rfl))) (fun _ _ _ _ _ => pts_nil) (fun _ _ _ _ _ => (pe_has h__law_source hr (by omega) rfl pass0 (pa_cons (pe_has h__law_seed hr (by omega) rfl pass0 (pa_cons (pe_has h__law_cell hr (by omega) rfl pass0 (pa_cons (pv 0) (pa_cons pe_int pa_nil))) (pa_cons (pv 4) pa_nil))) pa_nil))))
      (pss_cons (ps_for PassesOwn.never rfl (pi_range1 rfl (T.free (by decide)) (pa_cons (pv 2) pa_nil)) (pg_name (i := 4) nd rfl (Or.inl rfl)) (pss_one (ps_expr (pe_hm (pv 1) U.cN h_Notebook_put hr (by omega) (passA passL) (pa_cons (pv 4) (pa_cons (pe_ix (kIx (K := K) rfl) (pv 3) (pv 4) (fun _ _ => rfl)) pa_nil))))))
      (pss_cons (ps_set (i := 5) nd rfl (Or.inl rfl) (pe_op (kMul (K := K) rfl) (pe_lst (pa_cons pe_int pa_nil)) (pv 2)))
      (pss_cons (ps_set (i := 6) nd rfl (Or.inl rfl) (pe_lst (pa_cons (pe_op (kMul (K := K) rfl) (pe_lst (pa_cons pe_int pa_nil)) (pv 2)) (pa_cons (pe_op (kMul (K := K) rfl) (pe_lst (pa_cons pe_int pa_nil)) (pv 2)) pa_nil))))
      (pss_cons (ps_for PassesOwn.never rfl (pi_range1 rfl (T.free (by decide)) (pa_cons (pe_op op_mod (pe_has h__law_cell hr (by omega) rfl pass0 (pa_cons (pv 0) (pa_cons pe_int pa_nil))) pe_int) pa_nil)) (pg_name (i := 4) nd rfl (Or.inl rfl)) (pss_cons (ps_set (i := 7) nd rfl (Or.inl rfl) (pe_has h__law_seed hr (by omega) rfl pass0 (pa_cons (pe_op (kAdd (K := K) rfl) (pe_has h__law_cell hr (by omega) rfl pass0 (pa_cons (pv 0) (pa_cons (pe_op (kAdd (K := K) rfl) pe_int (pe_op op_mod (pv 4) pe_int)) pa_nil))) (pe_op (kMul (K := K) rfl) pe_int (pv 4))) (pa_cons (pv 4) pa_nil))))
      (pss_cons (ps_set (i := 8) nd rfl (Or.inl rfl) (pe_op op_mod (pe_op op_fdiv (pv 7) pe_int) pe_int))
      (pss_cons (ps_set (i := 9) nd rfl (Or.inl rfl) (pe_op op_mod (pe_op op_fdiv (pv 7) pe_int) (pv 2)))
      (pss_cons (ps_if (pt_cmpR (kEq (K := K) rfl hr.units) (pe_has h__law_pick hr (by omega) rfl pass0 (pa_cons (pv 7) (pa_cons pe_int pa_nil))) pe_int (nomark _)) (pss_one (ps_asg (pe_lc (own := [("one", 10)]) rfl nd (pi_range1 rfl (T.free (by decide)) (pa_cons (pv 2) pa_nil)) (blkOk_by (N := ["script", "notebook", "many", "sources", "k", "versions", "seen", "seed", "hand", "number", "one", "source", "caught", "told"]) (sc := defScope s_law) (own := [("one", 10)]) (by decide +kernel)) (fun _ _ _ _ _ => (pg_name (i := 10) nd rfl (Or.inl rfl))) (fun _ _ _ _ _ => pts_nil) (fun _ _ _ _ _ => (pe_hm (pv 1) U.cN h_Notebook_version hr (by omega) (passA passL) (pa_cons (pv 10) pa_nil)))) (pg_sub (pv 6) (pv 8) set_list))) (pss_cons (ps_set (i := 11) nd rfl (Or.inl rfl) (pe_has h__law_source hr (by omega) rfl pass0 (pa_cons (pe_has h__law_seed hr (by omega) rfl pass0 (pa_cons (pv 7) (pa_cons pe_int pa_nil))) pa_nil)))
      (pss_cons (ps_set (i := 12) nd rfl (Or.inl rfl) pe_bl)
      (pss_cons (ps_set (i := 13) nd rfl (Or.inl rfl) pe_non)
      (pss_cons (ps_try_only rfl rfl ⟨rfl, by decide, Or.inl x_Behind.g⟩ takes0 (fun W pn xe tk _ => (pss_one (ps_set (i := 13) nd rfl (Or.inl rfl) (pe_hm (pv 1) U.cN h_Notebook_change hr (by omega) (fun σ => passAt tk σ) (pa_cons (pv 9) (pa_cons (pe_ix (kIx (K := K) rfl) (pe_ix (kIx (K := K) rfl) (pv 6) (pv 8) (fun _ _ => rfl)) (pv 9) (fun _ _ => rfl)) (pa_cons (pv 11) pa_nil))))))) (fun _ _ _ _ _ _ _ => (pss_one (ps_set (i := 12) nd rfl (Or.inl rfl) pe_bl))))
      (pss_cons (ps_if (pt_cmpR (kNe (K := K) rfl hr.units) (pv 12) (pe_cmpR (kNe (K := K) rfl hr.units) (pe_ix (kIx (K := K) rfl) (pe_ix (kIx (K := K) rfl) (pv 6) (pv 8) (fun _ _ => rfl)) (pv 9) (fun _ _ => rfl)) (pe_ix (kIx (K := K) rfl) (pv 5) (pv 9) (fun _ _ => rfl)) (nomark _)) (nomark _)) (pss_one (ps_ret pe_bl)) pss_nil)
      (pss_one (ps_if (pt_not (kTruth (K := K) rfl (pv 12))) (pss_cons (ps_augS (pv 5) (pv 9) get_list pe_int ip_add set_list)
      (pss_cons (ps_asg (pv 11) (pg_sub (pv 3) (pv 9) set_list))
      (pss_cons (ps_asg (pv 13) (pg_sub (pe_ix (kIx (K := K) rfl) (pv 6) (pv 8) (fun _ _ => rfl)) (pv 9) set_list))
      (pss_one (ps_if (pt_cmpR (kNe (K := K) rfl hr.units) (pv 13) (pe_ix (kIx (K := K) rfl) (pv 5) (pv 9) (fun _ _ => rfl)) (nomark _)) (pss_one (ps_ret pe_bl)) pss_nil))))) pss_nil))))))))
      (pss_cons (ps_if (pt_cmpR (kNe (K := K) rfl hr.units) (pe_lc (own := [("one", 10)]) rfl nd (pi_range1 rfl (T.free (by decide)) (pa_cons (pv 2) pa_nil)) (blkOk_by (N := ["script", "notebook", "many", "sources", "k", "versions", "seen", "seed", "hand", "number", "one", "source", "caught", "told"]) (sc := defScope s_law) (own := [("one", 10)]) (by decide +kernel)) (fun _ _ _ _ _ => (pg_name (i := 10) nd rfl (Or.inl rfl))) (fun _ _ _ _ _ => pts_nil) (fun _ _ _ _ _ => (pe_hm (pv 1) U.cN h_Notebook_version hr (by omega) (passA passL) (pa_cons (pv 10) pa_nil)))) (pv 5) (nomark _)) (pss_one (ps_ret pe_bl)) pss_nil)
      (pss_one (ps_if (pt_cmpR (kNe (K := K) rfl hr.units) (pe_lc (own := [("one", 10)]) rfl nd (pi_range1 rfl (T.free (by decide)) (pa_cons (pv 2) pa_nil)) (blkOk_by (N := ["script", "notebook", "many", "sources", "k", "versions", "seen", "seed", "hand", "number", "one", "source", "caught", "told"]) (sc := defScope s_law) (own := [("one", 10)]) (by decide +kernel)) (fun _ _ _ _ _ => (pg_name (i := 10) nd rfl (Or.inl rfl))) (fun _ _ _ _ _ => pts_nil) (fun _ _ _ _ _ => (pe_hm (pv 1) U.cN h_Notebook_source hr (by omega) (passA passL) (pa_cons (pv 10) pa_nil)))) (pv 3) (nomark _)) (pss_one (ps_ret pe_bl)) pss_nil))))))))
      (pss_one (ps_ret (pe_and (pe_cmpR (kEq (K := K) rfl hr.units) (pe_hm0 (pv 1) U.cN h_Notebook_fresh hr (by omega) (passA pass0)) (pe_lst pa_nil) (nomark _)) (pe_one (pe_cmpR (kEq (K := K) rfl hr.units) (pe_lc (own := [("one", 10)]) rfl nd (pi_range1 rfl (T.free (by decide)) (pa_cons (pv 2) pa_nil)) (blkOk_by (N := ["script", "notebook", "many", "sources", "k", "versions", "seen", "seed", "hand", "number", "one", "source", "caught", "told"]) (sc := defScope s_law) (own := [("one", 10)]) (by decide +kernel)) (fun _ _ _ _ _ => (pg_name (i := 10) nd rfl (Or.inl rfl))) (fun _ _ _ _ _ => pts_nil) (fun _ _ _ _ _ => (pe_hm (pv 1) U.cN h_Notebook_state hr (by omega) (passA passL) (pa_cons (pv 10) pa_nil)))) (pe_op (kMul (K := K) rfl) (pe_lst (pa_cons pe_str pa_nil)) (pv 2)) (nomark _))))))))))))), ?_⟩
  refine s_new_nb (K := K) (Ex.refl H) fun nb H1 M e1 hN hM => ?_
  have hS1 := ex_l e1 hS
  dsimp only
  obtain ⟨many, hmany, hm1, hm6⟩ : ∃ m : Nat, 1 + cellAt ns 0 % 6 = (m : Int) ∧ 1 ≤ m ∧ m ≤ 6 := by
    have := mod_lt10 (cellAt ns 0) 6 (by omega)
    exact ⟨(1 + cellAt ns 0 % 6).toNat, by omega, by omega, by omega⟩
  refine s_asg (ev_is (ev_int (ev_addI (K := K) (i := 1) (H := H1) evd_int (evd_i (ev_I (K := K) (C := fun _ j => 0 < j) (g := fun i j => .int (i % j)) (evd_cell (ev_var rfl) ev_c hS1 (by decide) hl) evd_int (by decide))))) (congrArg V.int hmany)) fun H2 e2 => ?_
  have hN2 := hN.ex e2
  have x2 : Ex H H2 := e1.trans e2
  dsimp only
  refine s_asgF (K := K) (B := H) (evf_lcR (fun i => encS (lawSource (seedF (cellAt ns 1) (i : Int)))) (ebs_cons (evb_i x2 (ev_var rfl)) (ebs_nil x2)) (by omega) (fun _ => rfl) fun i hi => EvD.toB (evd_call (eds_cons (evd_call (eds_cons (evd_cell (ev_var rfl) ev_c hS (by decide) hl) (eds_cons (evd_var (.int _)) eds_nil)) ⟨_, _, rfl, rfl⟩) eds_nil) ⟨_, rfl, rfl⟩) x2) fun pR vs H3 B3 hp g3 hB3 h3 dv => ?_
  have hN3 := hN2.gr g3
  have hpM : ¬ M pR := fun z => by
    obtain ⟨_, _, _, _, _, L⟩ := hN2
    exact (L.m _ z).2 hp
  have hS3 := ex_l g3.xd hS
  dsimp only
  clear hN hN2
  refine s_forN (K := K) (H0 := H3) (n := many) (eds_cons (evd_var (.int _)) eds_nil) (Ex.refl _) (by omega) (fun i σ' H' => ∃ M' B' st o, σ' = [some (.ref a), some (.ref nb), some (.int (many : Int)), some (.ref pR), o, none, none, none, none, none, none, none, none, none] ∧ NB K W M' B' H' nb st ∧ NbG st ∧ Ex B3 B' ∧ st.row = List.range i ∧ st.after = i ∧ (∀ n, n < i → st.cell n = newCell (lawSource (seedF (cellAt ns 1) (n : Int)))) ∧ H' pR = some (.lst vs) ∧ B' pR = none ∧ ¬ M' pR) (fun H4 e4 => ⟨M, B3, st0, none, rfl, hN3.ex e4, NbG.st0, Ex.refl _, rfl, rfl, fun n h => by omega, e4 _ _ h3, hB3, hpM⟩) ?_ ?_
  · rintro i σ' H' hi ⟨M', B', st, o, rfl, hN', hG, xb, hrow, haf, hce, hp', hb', hm'⟩
    have xB := hN'.x
    have hlen : st.row.length = i := by rw [hrow, List.length_range]
    obtain ⟨v, hv, hd⟩ := dpAll_at (dpAll_ex xb _ _ dv) (i := i) (d := encS (lawSource (seedF (cellAt ns 1) (i : Int)))) (by rw [List.getElem?_map, List.getElem?_range hi]; rfl)
    have hg := lawSource_good (seedF (cellAt ns 1) (i : Int))
    refine s_metD (K := K) (T := W) (st := st) (fun _ _ _ => rfl) (ev_var rfl) hN' hG (ebs_cons (evb_i xB (ev_var rfl)) (ebs_cons (evb_v xB (ev_ixV (K := K) (ev_var rfl) (ev_var rfl) hp' hv) hd) (ebs_nil xB))) ⟨_, _, rfl, ok_src _ hg, .inr (.inr (.inr ⟨i, _, rfl, by omega, rfl, hg, by omega, rfl, rfl⟩))⟩ (fun d e v H5 B5 M5 f5 hN5 _ => ?_) fun c e => by cases e
    have hpn : H' pR ≠ none := by rw [hp']; exact fun z => nomatch z
    refine ⟨M5, B5, _, _, rfl, hN5, hG.put hg (by omega) (by omega), xb.trans f5.xd, ?_, ?_, fun n hn => ?_, f5.fr _ _ hp' hm', f5.nw _ hb' hpn, fun z => ?_⟩
    · show st.row.take i ++ [st.after] ++ st.row.drop i = _
      rw [List.take_of_length_le (by omega), List.drop_eq_nil_of_le (by omega), hrow, haf, List.append_nil, List.range_succ]
    · show st.after + 1 = _
      omega
    · show (if n = st.after then newCell _ else st.cell n) = _
      rw [haf]
      by_cases e : n = i
      · rw [if_pos e, e]
      · rw [if_neg e]
        exact hce n (by omega)
    · rcases f5.mm _ z with z | z
      · exact hm' z
      · exact hpn z
  rintro σ4 H4 ⟨M4, B4, st, o4, rfl, hN4, hG4, xb4, hrow, haf, hce, hp4, hb4, hm4⟩
  have x4 := hN4.x
  have dv4 := dpAll_ex xb4 _ _ dv
  have hS4 := ex_l xb4 hS3
  clear hN3
  refine s_asgF (K := K) (B := B4) (evf_rep (n := (many : Int)) (evf_lst (ebs_cons (evb_i x4 ev_c) (ebs_nil x4)) (by simp)) (ev_var rfl) (by omega) (by simp)) fun pV us H5 B5 hpV g5 hB5 h5 du => ?_
  have hN5 := hN4.gr g5
  have hS5 := ex_l g5.xd hS4
  dsimp only
  refine s_two (K := K) (B := B5) (evf_rep (n := (many : Int)) (evf_lst (ebs_cons (evb_i hN5.x ev_c) (ebs_nil hN5.x)) (by simp)) (ev_var rfl) (by omega) (by simp)) (evf_rep (n := (many : Int)) (evf_lst (ebs_cons (evb_i hN5.x ev_c) (ebs_nil hN5.x)) (by simp)) (ev_var rfl) (by omega) (by simp)) fun pS l0 l1 u0 u1 H6 B6 hpS hl0 hl1 n01 nS0 nS1 g6 hBS hB0 hB1 h6 h60 h61 du0 du1 => ?_
  dsimp only
  have nM : ∀ p, H4 p = none → ¬ M4 p := fun p h z => by
    obtain ⟨_, _, _, _, _, L⟩ := hN4
    exact (L.m _ z).2 h
  have hpV4 : H4 pV = none := hpV
  have e45 := g5.ex
  have hs5 : ∀ {p}, H5 p = none → H4 p = none := fun h => fresh_back e45 h
  have I0 : I14 K W M4 B6 H6 nb st many 0 pV pS pR (fun h => if h = 0 then l0 else l1) (fun _ => List.replicate many 0) vs := by
    have hV5 : H5 pV ≠ none := by rw [h5]; exact fun z => nomatch z
    have hR5 : H5 pR = some (.lst vs) := g5.ex _ _ hp4
    have hR5n : H5 pR ≠ none := by rw [hR5]; exact fun z => nomatch z
    have hR4n : H4 pR ≠ none := by rw [hp4]; exact fun z => nomatch z
    have ex : (st.row = List.range many) := hrow
    refine ⟨hN5.gr g6, hG4, hrow, fun n hn => ?_, ?_, h6, fun h hh => ?_, fun h _ => by simp, fun h _ x hx => ?_, g6.ex _ _ hR5, ?_, fun p hp => ?_, ?_⟩
    · rw [hce n hn]
      exact ⟨rfl, rfl, Nat.le_refl _⟩
    · rw [g6.ex _ _ h5, zeros (us := []) du]
      congr 2
      rw [Int.toNat_natCast]
      apply List.ext_getElem?
      intro j
      rw [List.getElem?_map, List.getElem?_map, List.getElem?_replicate]
      by_cases hj : j < many
      · rw [if_pos hj, List.getElem?_range hj]
        show some (V.int 0) = some (V.int ((st.cell j).count : Int))
        rw [hce j hj]
        rfl
      · rw [if_neg hj, List.getElem?_eq_none (by rw [List.length_range]; omega)]
        rfl
    · have : h = 0 ∨ h = 1 := by omega
      rcases this with rfl | rfl
      · show H6 l0 = _
        rw [h60, zeros (us := []) du0, Int.toNat_natCast]
      · show H6 l1 = _
        rw [h61, zeros (us := []) du1, Int.toNat_natCast]
    · have := List.eq_of_mem_replicate hx
      omega
    · have e : ((List.range many).map fun n => encS (st.cell n).src) = (List.range many).map fun i : Nat => encS (lawSource (seedF (cellAt ns 1) (i : Int))) := by
        refine List.map_congr_left fun m hm => ?_
        rw [hce m (List.mem_range.mp hm)]
        rfl
      rw [e]
      exact dpAll_ex (g5.xd.trans g6.xd) _ _ dv4
    · simp only [List.mem_cons, List.not_mem_nil, or_false] at hp
      rcases hp with rfl | rfl | rfl | rfl | rfl
      · exact ⟨g6.fr _ hB5 hV5, nM _ hpV⟩
      · exact ⟨hBS, nM _ (hs5 hpS)⟩
      · exact ⟨g6.fr _ (g5.fr _ hb4 hR4n) hR5n, hm4⟩
      · exact ⟨hB0, nM _ (hs5 hl0)⟩
      · exact ⟨hB1, nM _ (hs5 hl1)⟩
    · have nVS : pV ≠ pS := fun z => hV5 (by rw [z]; exact hpS)
      have nV0 : pV ≠ l0 := fun z => hV5 (by rw [z]; exact hl0)
      have nV1 : pV ≠ l1 := fun z => hV5 (by rw [z]; exact hl1)
      have nVR : pV ≠ pR := fun z => hR4n (by rw [← z]; exact hpV)
      have nSR : pS ≠ pR := fun z => hR5n (by rw [← z]; exact hpS)
      have nR0 : pR ≠ l0 := fun z => hR5n (by rw [z]; exact hl0)
      have nR1 : pR ≠ l1 := fun z => hR5n (by rw [z]; exact hl1)
      simp [nVS, nV0, nV1, nVR, nSR, nR0, nR1, nS0, nS1, n01]
  have hS6 := ex_l g6.xd hS5
  have m40 := mod_lt10 (cellAt ns 2) 40 (by omega)
  obtain ⟨turns, hturns, ht40⟩ : ∃ m : Nat, cellAt ns 2 % 40 = (m : Int) ∧ m < 40 := ⟨(cellAt ns 2 % 40).toNat, by omega, by omega⟩
  refine s_forN (K := K) (H0 := B6) (n := turns) (eds_cons (evd_is (evd_i (ev_I (K := K) (C := fun _ j => 0 < j) (g := fun i j => .int (i % j)) (evd_cell (ev_var rfl) ev_c hS6 (by decide) hl) evd_int (by decide))) (congrArg PyData.int hturns)) eds_nil) I0.N.x (by omega) (fun i σ' H' => ∃ M' B' st' lf af vs' o4 o7 o8 o9 o11 o12 o13, σ' = [some (.ref a), some (.ref nb), some (.int (many : Int)), some (.ref pR), o4, some (.ref pV), some (.ref pS), o7, o8, o9, none, o11, o12, o13] ∧ I14 K W M' B' H' nb st' many i pV pS pR lf af vs' ∧ Ex B6 B') (fun H7 e7 => ⟨M4, B6, st, _, _, vs, _, _, _, _, _, _, _, rfl, I0.ex e7, Ex.refl _⟩) ?_ ?_
  · rintro i σ' H' hi ⟨M', B', st', lf, af, vs', o4, o7, o8, o9, o11, o12, o13, rfl, I, xb⟩
    clear I0 hN4 hN5 dv4 hce
    have hS' := ex_l xb hS6
    have xB := I.N.x
    refine s_asgD (K := K) (H0 := B') (d := .int (seedF (cellAt ns (3 + (i : Int) % 5) + 37 * (i : Int)) (i : Int))) (evd_call (eds_cons (ev_addI (evd_cell (k := 3 + (i : Int) % 5) (ev_var rfl) (ev_int (ev_addI (K := K) evd_int (evd_i (ev_I (K := K) (C := fun _ j => 0 < j) (g := fun i j => .int (i % j)) (evd_var (.int _)) evd_int (by decide))))) hS' (by omega) hl) (evd_mulI evd_int (evd_var (.int _)) (.inl (by decide)))) (eds_cons (evd_var (.int _)) eds_nil)) ⟨_, _, rfl, rfl⟩) xB fun v7 H7 B7 g7 d7 => ?_
    have e7 := dp_int d7
    subst e7
    generalize seedF (cellAt ns (3 + (i : Int) % 5) + 37 * (i : Int)) (i : Int) = s at *
    have I7 := I.ex g7.ex
    clear d7 I
    obtain ⟨hd, hhd, hd2⟩ : ∃ m : Nat, s / 7 % 2 = (m : Int) ∧ m < 2 := by
      have := mod_lt10 (s / 7) 2 (by omega)
      exact ⟨(s / 7 % 2).toNat, by omega, by omega⟩
    obtain ⟨nn, hnn, hn2⟩ : ∃ m : Nat, s / 11 % (many : Int) = (m : Int) ∧ m < many := by
      have := mod_lt10 (s / 11) (many : Int) (by omega)
      exact ⟨(s / 11 % (many : Int)).toNat, by omega, by omega⟩
    dsimp only
    refine s_asg (ev_is (ev_I (K := K) (H := H7) (C := fun _ j => 0 < j) (g := fun i j => .int (i % j)) (evd_i (ev_I (K := K) (C := CDiv) (g := fun i j => .int (i / j)) (evd_var (.int s)) evd_int ⟨by decide, by decide⟩)) evd_int (by decide)) (congrArg V.int hhd)) fun H8 e8 => ?_
    dsimp only
    refine s_asg (ev_is (ev_I (K := K) (H := H8) (C := fun _ j => 0 < j) (g := fun i j => .int (i % j)) (evd_i (ev_I (K := K) (C := CDiv) (g := fun i j => .int (i / j)) (evd_var (.int s)) evd_int ⟨by decide, by decide⟩)) (evd_var (.int (many : Int))) (by omega)) (congrArg V.int hnn)) fun H9 e9 => ?_
    have I9 := I7.ex (e8.trans e9)
    clear I7
    have x9 := I9.N.x
    have mem : ∀ n, n < many → n ∈ st'.row := fun n hn => by rw [I9.row]; exact List.mem_range.mpr hn
    have ver : ∀ {M1 B1 H1 σ1} {st1 : NbS} {n : Nat}, σ1[1]? = some (some (V.ref nb)) → σ1[10]? = some (some (V.int (n : Int))) → NB K W M1 B1 H1 nb st1 → NbG st1 → n ∈ st1.row → EvB K (tMet W.N "version" (spNq K W (R_version c_NoCell)) (fun _ => E0) (tVar 1) (tCons (tVar 10) tNil)) σ1 B1 H1 (.int ((st1.cell n).count : Int)) := fun h1 h2 hN hG hn => evb_q (fun _ _ _ => rfl) (ev_var h1) hN hG (ebs_cons (evb_i hN.x (ev_var h2)) (ebs_nil hN.x)) ⟨_, rfl, .inr ⟨_, hn, rfl, rfl⟩⟩
    dsimp only
    refine s_ifP (fun σ'' H'' => ∃ M' B' st' lf af vs' o4 o7 o8 o9 o11 o12 o13, σ'' = [some (.ref a), some (.ref nb), some (.int (many : Int)), some (.ref pR), o4, some (.ref pV), some (.ref pS), o7, o8, o9, none, o11, o12, o13] ∧ I14 K W M' B' H'' nb st' many (i + 1) pV pS pR lf af vs' ∧ Ex B6 B') ?fin (H0 := H9) (et_test (ev_eq (K := K) (evd_call (eds_cons (evd_var (.int s)) (eds_cons evd_int eds_nil)) ⟨s, 3, rfl, by decide, rfl⟩) evd_int rfl rfl)) (Ex.refl _) (fun hb fin H10 e10 => ?_) fun hb fin H10 e10 => ?_
    case fin =>
      rintro σ'' H'' ⟨M1, B1, st1, lf1, af1, vs1, p4, p7, p8, p9, p11, p12, p13, rfl, J, xb1⟩
      dsimp only
      have xJ := J.N.x
      have memJ : ∀ n, n < many → n ∈ st1.row := fun n hn => by rw [J.row]; exact List.mem_range.mpr hn
      have dV : Dt K H'' (.ref pV) (.list ((List.range many).map fun n => PyData.int ((st1.cell n).count : Int))) := by
        refine .lst J.hV ?_
        have := dt_ints (K := K) (H := H'') ((List.range many).map fun n => ((st1.cell n).count : Int))
        rw [List.map_map, List.map_map] at this
        exact this
      have dR : Dt K H'' (.ref pR) (.list ((List.range many).map fun n => encS (st1.cell n).src)) := .lst J.hR (dpAll_ex xJ _ _ J.dR)
      have shV : SeqAt.shaped (.list ((List.range many).map fun n => PyData.int ((st1.cell n).count : Int))) = true := by
        refine shaped_of (ok_lst_of fun d hd => ?_) (Nat.le_trans (depth_list (n := 0) fun d hd => ?_) (by decide))
        · obtain ⟨n, _, rfl⟩ := List.mem_map.mp hd
          rfl
        · obtain ⟨n, _, rfl⟩ := List.mem_map.mp hd
          exact Nat.le_refl _
      have shR : SeqAt.shaped (.list ((List.range many).map fun n => encS (st1.cell n).src)) = true := by
        refine shaped_of (ok_lst_of fun d hd => ?_) (Nat.le_trans (depth_list (n := 8) fun d hd => ?_) (by decide))
        · obtain ⟨n, hn, rfl⟩ := List.mem_map.mp hd
          exact ok_src _ (J.G.good n (memJ n (List.mem_range.mp hn)))
        · obtain ⟨n, hn, rfl⟩ := List.mem_map.mp hd
          exact src_depth (J.G.good n (memJ n (List.mem_range.mp hn)))
      refine s_skip (H0 := H'') (et_is (et_test (ev_ne (K := K) (EvB.toD (EvB.wide (EvF.toB (evf_lcR (fun n => .int ((st1.cell n).count : Int)) (ebs_cons (evb_i xJ (ev_var rfl)) (ebs_nil xJ)) (by omega) (fun _ => rfl) fun n hn => ver rfl rfl J.N J.G (memJ n hn))) xJ (Ex.refl _))) (evd_var dV) shV shV)) (by rw [SeqAt.eqv_refl _ (SeqAt.canLay_of_shaped shV)] <;> rfl)) (Ex.refl _) fun H20 e20 => ?_
      have J20 := J.ex e20
      have xJ20 := J20.N.x
      dsimp only
      refine s_skip (H0 := H20) (et_is (et_test (ev_ne (K := K) (EvB.toD (EvB.wide (EvF.toB (evf_lcR (fun n => encS (st1.cell n).src) (ebs_cons (evb_i xJ20 (ev_var rfl)) (ebs_nil xJ20)) (by omega) (fun _ => rfl) fun n hn => evb_q (fun _ _ _ => rfl) (ev_var rfl) J20.N J.G (ebs_cons (evb_i xJ20 (ev_var rfl)) (ebs_nil xJ20)) ⟨_, rfl, .inr ⟨n, memJ n hn, rfl, rfl⟩⟩)) xJ20 (Ex.refl _))) (evd_var (dp_ex e20 _ _ dR)) shR shR)) (by rw [SeqAt.eqv_refl _ (SeqAt.canLay_of_shaped shR)] <;> rfl)) (Ex.refl _) fun H21 e21 => ?_
      exact ⟨M1, B1, st1, _, _, vs1, _, _, _, _, _, _, _, rfl, J20.ex e21, xb1⟩
    · have I10 := I9.ex e10
      have x10 := I10.N.x
      refine s_setLF (K := K) (B := B') (i := hd) (evf_lcR (fun n => .int ((st'.cell n).count : Int)) (ebs_cons (evb_i x10 (ev_var rfl)) (ebs_nil x10)) (by omega) (fun _ => rfl) fun n hn => ver rfl rfl I10.N I10.G (mem n hn)) (ev_var rfl) (ev_var rfl) I10.hS hd2 fun p us H11 B11 hp g11 hB11 h11 du => ?_
      have I11 := I10.gr g11
      have eu : us = ((List.range many).map fun n => ((st'.cell n).count : Int)).map V.int := ints_inv (K := K) (H := B11) (by rw [List.map_map]; exact du)
      rw [eu] at h11
      have nin : p ∉ [pV, pS, pR, lf 0, lf 1] := fun z => I10.there p z hp
      have np : ¬ M' p := fun z => by
        obtain ⟨_, _, _, _, _, L⟩ := I10.N
        exact (L.m _ z).2 hp
      exact fin _ _ ⟨M', B11, st', _, _, vs', _, _, _, _, _, _, _, rfl, (I11.hand hd2 h11 (by simp) (fun x hx => by
        obtain ⟨n, hn, rfl⟩ := List.mem_map.mp hx
        have := (I11.pl n (List.mem_range.mp hn)).2.2
        omega) ⟨hB11, np⟩ nin).more (by omega), xb.trans g11.xd⟩
    · have I10 := I9.ex e10
      have x10 := I10.N.x
      refine s_asgD (K := K) (H0 := B') (d := encS (lawSource (seedF s 1))) (evd_call (eds_cons (evd_call (eds_cons (evd_var (.int _)) (eds_cons evd_int eds_nil)) ⟨_, _, rfl, rfl⟩) eds_nil) ⟨_, rfl, rfl⟩) x10 fun vsrc H11 B11 g11 d11 => ?_
      have hg := lawSource_good (seedF s 1)
      generalize lawSource (seedF s 1) = src at *
      have I11 := I10.gr g11
      clear I10 I9 x10 x9
      dsimp only
      refine s_asg ev_c fun H12 e12 => ?_
      dsimp only
      refine s_asg ev_c fun H13 e13 => ?_
      have I13 := I11.ex (e12.trans e13)
      have x13 := I13.N.x
      dsimp only
      have memh : hd < 2 := hd2
      obtain ⟨sv, hsv⟩ : ∃ z, (af hd)[nn]? = some z := ⟨_, List.getElem?_eq_getElem (by rw [I13.nL hd hd2]; exact hn2)⟩
      have bsv := I13.bL hd hd2 sv (List.mem_of_getElem? hsv)
      have D11 : Dt K B11 vsrc (encS src) := d11
      have win : isWithin (.int sv) 0 1000000 = true := by
        unfold isWithin
        rw [Bool.and_eq_true]
        exact ⟨decide_eq_true (by omega), decide_eq_true (by omega)⟩
      by_cases heq : sv = ((st'.cell nn).count : Int)
      · refine s_metA (K := K) (T := W) (st := st') (st' := LC.setS st' nn (chC (st'.cell nn) src)) (o := .inl (.int ((st'.cell nn).count + 1 : Int))) (fun _ _ _ => rfl) (ev_var rfl) I13.N I13.G (ebs_cons (evb_i x13 (ev_var rfl)) (ebs_cons (evb_i x13 (I13.seenE hd2 hsv)) (ebs_cons (evb_v x13 (ev_var rfl) D11) (ebs_nil x13)))) ⟨_, _, _, rfl, ok_src src hg, .inr ⟨nn, mem nn hn2, rfl, .inr ⟨sv, rfl, win, .inr ⟨src, rfl, hg, .inr ⟨heq, rfl, rfl⟩⟩⟩⟩⟩ (fun d ed v H14 B14 M14 f14 hN14 d14 => ?_) fun c ec => by cases ec
        cases ed
        have ev := dp_int d14
        subst ev
        have hlow : i < 5000 := by omega
        have k1 : ∀ p ∈ [pV, pS, pR, lf 0, lf 1], ∀ o, H13 p = some o → H14 p = some o := fun p hp o h => f14.fr p o h (I13.o p hp).2
        have hlm : lf hd ∈ [pV, pS, pR, lf 0, lf 1] := by
          have : hd = 0 ∨ hd = 1 := by omega
          rcases this with rfl | rfl <;> simp
        have hV14 := k1 _ (by simp) _ I13.hV
        have hS14 := k1 _ (by simp) _ I13.hS
        have hL14 := k1 _ hlm _ (I13.hL hd hd2)
        have hR14 := k1 _ (by simp) _ I13.hR
        have nd := I13.nd
        simp only [List.nodup_cons, List.mem_cons, List.not_mem_nil, or_false, not_or, not_false_eq_true, List.nodup_nil, and_true] at nd
        obtain ⟨⟨n1, n2, n3, n4⟩, ⟨n5, n6, n7⟩, ⟨n8, n9⟩, n10⟩ := nd
        have lV : pV ≠ lf hd := by
          have : hd = 0 ∨ hd = 1 := by omega
          rcases this with rfl | rfl
          · exact n3
          · exact n4
        have lS : pS ≠ lf hd := by
          have : hd = 0 ∨ hd = 1 := by omega
          rcases this with rfl | rfl
          · exact n6
          · exact n7
        have lR : pR ≠ lf hd := by
          have : hd = 0 ∨ hd = 1 := by omega
          rcases this with rfl | rfl
          · exact n8
          · exact n9
        have cV : ((List.range many).map fun n => V.int ((st'.cell n).count : Int))[nn]? = some (V.int ((st'.cell nn).count : Int)) := by rw [List.getElem?_map, List.getElem?_range hn2]; rfl
        dsimp only
        refine s_skip (H0 := H14) (et_is (et_test (ev_ne (K := K) (d := .bool false) (e := .bool false) (evd_var (.bl false)) (evd_is (evd_b (ev_ne (K := K) (d := .int sv) (e := .int ((st'.cell nn).count : Int)) (evd_i (ev_ixV (ev_ixV (ev_var rfl) (ev_var rfl) hS14 (two_at hd2)) (ev_var rfl) hL14 (by rw [List.getElem?_map, hsv]; rfl))) (evd_i (ev_ixV (ev_var rfl) (ev_var rfl) hV14 cV)) rfl rfl)) ?_) rfl rfl)) rfl) (Ex.refl _) fun H15 e15 => ?_
        · show PyData.bool (!(sv == ((st'.cell nn).count : Int))) = .bool false
          simp [heq]
        dsimp only
        refine s_yes (H0 := H15) (et_not (a := false) (et_b (K := K) (ev_var rfl))) (Ex.refl _) fun H16 e16 => ?_
        have e146 := e15.trans e16
        refine s_augL (i := nn) (a := ((st'.cell nn).count : Int)) (b := 1) (ev_var rfl) (ev_var rfl) (e146 _ _ hV14) cV ev_c fun H17 e17 => ?_
        have e147 := e146.trans e17
        dsimp only
        have lenR : vs'.length = many := by
          have := dpAll_len I13.dR
          rw [List.length_map, List.length_range] at this
          exact this
        have r17 : upd H17 pV (.lst (((List.range many).map fun n => V.int ((st'.cell n).count : Int)).set nn (.int (((st'.cell nn).count : Int) + 1)))) pR = some (.lst vs') := by rw [upd_ne (Ne.symm n2)]; exact e147 _ _ hR14
        refine s_setL (i := nn) (v := vsrc) (ev_var rfl) (ev_var rfl) (ev_var rfl) r17 (by omega) fun H18 e18 => ?_
        dsimp only
        have s18 : upd H18 pR (.lst (vs'.set nn vsrc)) pS = some (.lst [.ref (lf 0), .ref (lf 1)]) := by
          rw [upd_ne n5]
          refine e18 _ _ ?_
          rw [upd_ne (Ne.symm n1)]
          exact e147 _ _ hS14
        have l18 : upd H18 pR (.lst (vs'.set nn vsrc)) (lf hd) = some (.lst ((af hd).map V.int)) := by
          rw [upd_ne (Ne.symm lR)]
          refine e18 _ _ ?_
          rw [upd_ne (Ne.symm lV)]
          exact e147 _ _ hL14
        refine s_setL (i := nn) (v := .int ((st'.cell nn).count + 1 : Int)) (ev_var rfl) (ev_ixV (ev_var rfl) (ev_var rfl) s18 (two_at hd2)) (ev_var rfl) l18 (by rw [List.length_map, I13.nL hd hd2]; exact hn2) fun H19 e19 => ?_
        have J := I13.change (H2 := upd H19 (lf hd) (.lst (((af hd).map V.int).set nn (.int ((st'.cell nn).count + 1 : Int))))) (v := vsrc) hlow f14 hN14 hg hn2 hd2 (dp_ex f14.xd _ _ D11) ?_ ?_ upd_same ?_
        · dsimp only
          refine s_skip (et_is (et_test (ev_ne (K := K) (d := .int ((st'.cell nn).count + 1 : Int)) (e := .int ((st'.cell nn).count + 1 : Int)) (evd_var (.int _)) (evd_is (evd_i (J.verE hn2)) ?_) rfl rfl)) ?_) (Ex.refl _) fun H20 e20 => ?_
          · show PyData.int ((if nn = nn then chC (st'.cell nn) src else st'.cell nn).count : Int) = _
            rw [if_pos rfl]
            rfl
          · show (!(((st'.cell nn).count : Int) + 1 == ((st'.cell nn).count : Int) + 1)) = false
            simp
          exact fin _ _ ⟨M14, B14, _, lf, _, _, _, _, _, _, _, _, _, rfl, J.ex e20, xb.trans (g11.xd.trans f14.xd)⟩
        · rw [upd_ne lV]
          refine e19 _ _ ?_
          rw [upd_ne n2]
          exact e18 _ _ upd_same
        · rw [upd_ne lR]
          exact e19 _ _ upd_same
        · intro b o h1 h2 h3 ho
          rw [upd_ne h3]
          refine e19 _ _ ?_
          rw [upd_ne h2]
          refine e18 _ _ ?_
          rw [upd_ne h1]
          exact e147 _ _ ho
      · refine s_metA (K := K) (T := W) (st := st') (st' := st') (o := .inr c_Behind) (fun _ _ _ => rfl) (ev_var rfl) I13.N I13.G (ebs_cons (evb_i x13 (ev_var rfl)) (ebs_cons (evb_i x13 (I13.seenE hd2 hsv)) (ebs_cons (evb_v x13 (ev_var rfl) D11) (ebs_nil x13)))) ⟨_, _, _, rfl, ok_src src hg, .inr ⟨nn, mem nn hn2, rfl, .inr ⟨sv, rfl, win, .inr ⟨src, rfl, hg, .inl ⟨heq, rfl, rfl⟩⟩⟩⟩⟩ (fun d ed => by cases ed) fun c ec H14 B14 M14 f14 hN14 => ?_
        cases ec
        refine ⟨true, e_Behind_Behind, fun _ b hb => ?_, fun z => nomatch z⟩
        have J := I13.fr f14 hN14
        refine s_asg ev_c fun H15 e15 => ?_
        have J15 := J.ex e15
        dsimp only
        refine s_skip (H0 := H15) (et_is (et_test (ev_ne (K := K) (d := .bool true) (e := .bool true) (evd_var (.bl true)) (evd_is (evd_b (ev_ne (K := K) (evd_i (J15.seenE hd2 hsv)) (evd_i (J15.verE hn2)) rfl rfl)) ?_) rfl rfl)) rfl) (Ex.refl _) fun H16 e16 => ?_
        · show PyData.bool (!(sv == ((st'.cell nn).count : Int))) = .bool true
          simp [heq]
        dsimp only
        refine s_skip (H0 := H16) (et_not (a := true) (et_b (K := K) (ev_var rfl))) (Ex.refl _) fun H17 e17 => ?_
        exact fin _ _ ⟨M14, B14, st', lf, af, vs', _, _, _, _, _, _, _, rfl, (J15.ex (e16.trans e17)).more (by omega), xb.trans (g11.xd.trans f14.xd)⟩
  rintro σ' H' ⟨M', B', st', lf, af, vs', o4, o7, o8, o9, o11, o12, o13, rfl, I, xb⟩
  have x := I.N.x
  have mem : ∀ n, n < many → n ∈ st'.row := fun n hn => by rw [I.row]; exact List.mem_range.mpr hn
  have en : (List.replicate (many : Int).toNat [PyData.str "new"]).flatten = (List.range many).map fun _ => PyData.str "new" := by
    rw [Int.toNat_natCast, rep_flat]
  have sh : SeqAt.shaped (.list ((List.range many).map fun _ => PyData.str "new")) = true := by
    refine shaped_of (ok_lst_of fun d hd => ?_) (Nat.le_trans (depth_list (n := 0) fun d hd => ?_) (by decide))
    · obtain ⟨n, _, rfl⟩ := List.mem_map.mp hd
      decide +kernel
    · obtain ⟨n, _, rfl⟩ := List.mem_map.mp hd
      exact Nat.le_refl _
  dsimp only
  refine s_ret (ev_is (ev_andV (a := true) (b := true) (ev_is (ev_eq (K := K) (d := .list []) (e := .list []) (EvB.toD (EvB.wide (evb_q (fun _ _ _ => rfl) (ev_var rfl) I.N I.G (ebs_nil x) ⟨rfl, fun n hn => (I.pl n (by rw [I.row] at hn; exact List.mem_range.mp hn)).2.1, rfl⟩) x (Ex.refl _))) (evd_lst eds_nil (by decide)) rfl rfl) rfl) fun _ => ev_is (ev_eq (K := K) (EvB.toD (EvB.wide (EvF.toB (evf_lcR (fun _ => .str "new") (ebs_cons (evb_i x (ev_var rfl)) (ebs_nil x)) (by omega) (fun _ => rfl) fun n hn => evb_q (fun _ _ _ => rfl) (ev_var rfl) I.N I.G (ebs_cons (evb_i x (ev_var rfl)) (ebs_nil x)) ⟨n, rfl, mem n hn, (I.pl n hn).1, (I.pl n hn).2.1, rfl⟩)) x (Ex.refl _))) (evd_is (EvB.toD (EvB.wide (EvF.toB (evf_rep (n := (many : Int)) (evf_lst (ebs_cons (evd_str.toB x) (ebs_nil x)) (by simp)) (ev_var rfl) (by omega) (by simp))) x (Ex.refl _))) (congrArg PyData.list en)) sh sh) (by rw [SeqAt.eqv_refl _ (SeqAt.canLay_of_shaped sh)])) rfl) fun H19 e19 => k H19
end
theorem facts {P : Program} {w : World} {K : PySem.W.Frag} {h : Heap} {mg : Str → Option Value} {f : Addr} (X : K.In h) (G : h.Ns mainGlobals mg) (hfa : mg ("law" : Str) = some (.ref f)) (c0 : He.SaysX faL fnL [] [] exB w h K) :
    ∃ fd : FuncData, (∀ (s : Shared) (v : Value), BindsTo s fd ⟨[v], []⟩ [("script", v)]) ∧ ∀ base : Heap, K.In base → base.Ns mainGlobals mg → FnOk P w K mg base CX0 30 f fd ["script"] (LC.spLaw K) := by
  have c : He.SaysD faL fnL K := c0.t.d
  have cm : exB K = true := c0.more
  have T : LC.Tx mg := by
    refine ⟨fun {x} hx => ?_⟩
    simp only [LC.freeN, List.mem_cons, List.not_mem_nil, or_false] at hx
    rcases hx with rfl | rfl | rfl | rfl | rfl | rfl | rfl | rfl | rfl | rfl | rfl | rfl | rfl | rfl | rfl
    · exact He.free_ok X G (c.fact 70 (f := .free "len") rfl)
    · exact He.free_ok X G (c.fact 71 (f := .free "isinstance") rfl)
    · exact He.free_ok X G (c.fact 72 (f := .free "range") rfl)
    · exact He.free_ok X G (c.fact 73 (f := .free "tuple") rfl)
    · exact He.free_ok X G (c.fact 74 (f := .free "sorted") rfl)
    · exact He.free_ok X G (c.fact 75 (f := .free "set") rfl)
    · exact He.free_ok X G (c.fact 76 (f := .free "int") rfl)
    · exact He.free_ok X G (c.fact 77 (f := .free "str") rfl)
    · exact He.free_ok X G (c.fact 78 (f := .free "bool") rfl)
    · exact He.free_ok X G (c.fact 79 (f := .free "list") rfl)
    · exact He.free_ok X G (c.fact 80 (f := .free "min") rfl)
    · exact He.free_ok X G (c.fact 81 (f := .free "zip") rfl)
    · exact He.free_ok X G (c.fact 82 (f := .free "enumerate") rfl)
    · exact He.free_ok X G (c.fact 83 (f := .free "dict") rfl)
    · exact He.free_ok X G (c.fact 84 (f := .free "ValueError") rfl)
  have m___name__ := He.str_ok X G (c.fact 62 (f := .str "__name__" "law_leancells_k14_hands") rfl)
  have m_SMALL := He.str_ok X G (c.fact 63 (f := .str "SMALL" "abcdefghijklmnopqrstuvwxyz") rfl)
  have m_ROUND := He.int_ok X G (c.fact 64 (f := .int "ROUND" 10000) rfl)
  have m_MOST_ROWS := He.int_ok X G (c.fact 65 (f := .int "MOST_ROWS" 8) rfl)
  have m_MOST_DEEP := He.int_ok X G (c.fact 66 (f := .int "MOST_DEEP" 6) rfl)
  have m_WORDS := He.glo_ok X G (c.fact 67 (f := .glo "WORDS") rfl)
  have m_BARRED := He.glo_ok X G (c.fact 68 (f := .glo "BARRED") rfl)
  have m_MOST_CELLS := He.int_ok X G (c.fact 69 (f := .int "MOST_CELLS" 30) rfl)
  have t_WORDS : He.tupB K "WORDS" (LC.wordsS.map He.Dv.str) = true := by
    have cm := cm
    unfold exB at cm
    simp only [Bool.and_eq_true] at cm
    exact cm.1.1
  have b_WORDS := LC.tup_strs LC.wordsS t_WORDS
  have t_BARRED : He.tupB K "BARRED" (LC.barredS.map He.Dv.str) = true := by
    have cm := cm
    unfold exB at cm
    simp only [Bool.and_eq_true] at cm
    exact cm.1.2
  have b_BARRED := LC.tup_strs LC.barredS t_BARRED
  obtain ⟨xq_LeanError, xk_LeanError, xb_LeanError, xt_LeanError⟩ := He.exc_ok (c.fact 49 (f := .exc "LeanError") rfl)
  have x_LeanError : LC.ExcF K mg "LeanError" (He.ga K "LeanError") := ⟨xq_LeanError, He.glo_ok X G (c.fact 48 (f := .glo "LeanError") rfl), xk_LeanError, xb_LeanError, xt_LeanError⟩
  obtain ⟨xq_BadSource, xk_BadSource, xb_BadSource, xt_BadSource⟩ := He.exc_ok (c.fact 51 (f := .exc "BadSource") rfl)
  have x_BadSource : LC.ExcF K mg "BadSource" (He.ga K "BadSource") := ⟨xq_BadSource, He.glo_ok X G (c.fact 50 (f := .glo "BadSource") rfl), xk_BadSource, xb_BadSource, xt_BadSource⟩
  obtain ⟨xq_BadNumber, xk_BadNumber, xb_BadNumber, xt_BadNumber⟩ := He.exc_ok (c.fact 53 (f := .exc "BadNumber") rfl)
  have x_BadNumber : LC.ExcF K mg "BadNumber" (He.ga K "BadNumber") := ⟨xq_BadNumber, He.glo_ok X G (c.fact 52 (f := .glo "BadNumber") rfl), xk_BadNumber, xb_BadNumber, xt_BadNumber⟩
  obtain ⟨xq_NoCell, xk_NoCell, xb_NoCell, xt_NoCell⟩ := He.exc_ok (c.fact 55 (f := .exc "NoCell") rfl)
  have x_NoCell : LC.ExcF K mg "NoCell" (He.ga K "NoCell") := ⟨xq_NoCell, He.glo_ok X G (c.fact 54 (f := .glo "NoCell") rfl), xk_NoCell, xb_NoCell, xt_NoCell⟩
  obtain ⟨xq_Struck, xk_Struck, xb_Struck, xt_Struck⟩ := He.exc_ok (c.fact 57 (f := .exc "Struck") rfl)
  have x_Struck : LC.ExcF K mg "Struck" (He.ga K "Struck") := ⟨xq_Struck, He.glo_ok X G (c.fact 56 (f := .glo "Struck") rfl), xk_Struck, xb_Struck, xt_Struck⟩
  obtain ⟨xq_Behind, xk_Behind, xb_Behind, xt_Behind⟩ := He.exc_ok (c.fact 59 (f := .exc "Behind") rfl)
  have x_Behind : LC.ExcF K mg "Behind" (He.ga K "Behind") := ⟨xq_Behind, He.glo_ok X G (c.fact 58 (f := .glo "Behind") rfl), xk_Behind, xb_Behind, xt_Behind⟩
  obtain ⟨xq_Full, xk_Full, xb_Full, xt_Full⟩ := He.exc_ok (c.fact 61 (f := .exc "Full") rfl)
  have x_Full : LC.ExcF K mg "Full" (He.ga K "Full") := ⟨xq_Full, He.glo_ok X G (c.fact 60 (f := .glo "Full") rfl), xk_Full, xb_Full, xt_Full⟩
  have U : LC.NbT K ⟨He.ga K "Notebook", He.ga K "Cell", He.ga K "Record"⟩ := by
    refine ⟨He.cls_ok (c.fact 31 (f := .cls "Notebook") rfl), He.cls_ok (c.fact 25 (f := .cls "Cell") rfl), He.cls_ok (c.fact 18 (f := .cls "Record") rfl), fun {f} hf => ?_, fun {f} hf => ?_, fun {f} hf => ?_⟩
    · simp only [List.mem_cons, List.not_mem_nil, or_false] at hf
      rcases hf with rfl | rfl | rfl
      · exact He.noat_ok (c.fact 32 (f := .noat "Notebook" "cells") rfl)
      · exact He.noat_ok (c.fact 33 (f := .noat "Notebook" "row") rfl)
      · exact He.noat_ok (c.fact 34 (f := .noat "Notebook" "after") rfl)
    · simp only [List.mem_cons, List.not_mem_nil, or_false] at hf
      rcases hf with rfl | rfl | rfl | rfl
      · exact He.noat_ok (c.fact 26 (f := .noat "Cell" "lines") rfl)
      · exact He.noat_ok (c.fact 27 (f := .noat "Cell" "count") rfl)
      · exact He.noat_ok (c.fact 28 (f := .noat "Cell" "struck") rfl)
      · exact He.noat_ok (c.fact 29 (f := .noat "Cell" "record") rfl)
    · simp only [List.mem_cons, List.not_mem_nil, or_false] at hf
      rcases hf with rfl | rfl | rfl | rfl | rfl
      · exact He.noat_ok (c.fact 19 (f := .noat "Record" "lines") rfl)
      · exact He.noat_ok (c.fact 20 (f := .noat "Record" "asked") rfl)
      · exact He.noat_ok (c.fact 21 (f := .noat "Record" "shown") rfl)
      · exact He.noat_ok (c.fact 22 (f := .noat "Record" "sets") rfl)
      · exact He.noat_ok (c.fact 23 (f := .noat "Record" "why") rfl)
  obtain ⟨fd_is_within, F_is_within⟩ := c.def_ 0 (d := d_is_within) rfl
  have g_is_within := He.glo_ok X G (c.fact 1 (f := .glo "is_within") rfl)
  obtain ⟨fd_is_name, F_is_name⟩ := c.def_ 1 (d := d_is_name) rfl
  have g_is_name := He.glo_ok X G (c.fact 2 (f := .glo "is_name") rfl)
  obtain ⟨fd_is_sum, F_is_sum⟩ := c.def_ 2 (d := d_is_sum) rfl
  have g_is_sum := He.glo_ok X G (c.fact 3 (f := .glo "is_sum") rfl)
  obtain ⟨fd_is_row, F_is_row⟩ := c.def_ 3 (d := d_is_row) rfl
  have g_is_row := He.glo_ok X G (c.fact 4 (f := .glo "is_row") rfl)
  obtain ⟨fd_is_source, F_is_source⟩ := c.def_ 4 (d := d_is_source) rfl
  have g_is_source := He.glo_ok X G (c.fact 5 (f := .glo "is_source") rfl)
  obtain ⟨fd_look, F_look⟩ := c.def_ 5 (d := d_look) rfl
  have g_look := He.glo_ok X G (c.fact 6 (f := .glo "look") rfl)
  obtain ⟨fd_Cell_init, F_Cell_init⟩ := c.def_ 6 (d := d_Cell_init) rfl
  have M_Cell_init := He.mkr_ok (c.fact 35 (f := .mkr "Cell") rfl)
  have g_Cell_init := He.glo_ok X G (c.fact 24 (f := .glo "Cell") rfl)
  obtain ⟨fd_Notebook_init, F_Notebook_init⟩ := c.def_ 7 (d := d_Notebook_init) rfl
  have M_Notebook_init := He.mkr_ok (c.fact 36 (f := .mkr "Notebook") rfl)
  have g_Notebook_init := He.glo_ok X G (c.fact 30 (f := .glo "Notebook") rfl)
  obtain ⟨fd_Notebook_look_cell, F_Notebook_look_cell⟩ := c.def_ 8 (d := d_Notebook_look_cell) rfl
  have g_Notebook_look_cell := He.meth_ok (c.fact 37 (f := .meth "Notebook" "look_cell") rfl)
  obtain ⟨fd_Notebook_look_place, F_Notebook_look_place⟩ := c.def_ 9 (d := d_Notebook_look_place) rfl
  have g_Notebook_look_place := He.meth_ok (c.fact 38 (f := .meth "Notebook" "look_place") rfl)
  obtain ⟨fd_Notebook_put, F_Notebook_put⟩ := c.def_ 10 (d := d_Notebook_put) rfl
  have g_Notebook_put := He.meth_ok (c.fact 39 (f := .meth "Notebook" "put") rfl)
  obtain ⟨fd_Notebook_change, F_Notebook_change⟩ := c.def_ 11 (d := d_Notebook_change) rfl
  have g_Notebook_change := He.meth_ok (c.fact 40 (f := .meth "Notebook" "change") rfl)
  obtain ⟨fd_Notebook_setter, F_Notebook_setter⟩ := c.def_ 12 (d := d_Notebook_setter) rfl
  have g_Notebook_setter := He.meth_ok (c.fact 41 (f := .meth "Notebook" "setter") rfl)
  obtain ⟨fd_Notebook_holds, F_Notebook_holds⟩ := c.def_ 13 (d := d_Notebook_holds) rfl
  have g_Notebook_holds := He.meth_ok (c.fact 42 (f := .meth "Notebook" "holds") rfl)
  obtain ⟨fd_Notebook_last_told, F_Notebook_last_told⟩ := c.def_ 14 (d := d_Notebook_last_told) rfl
  have g_Notebook_last_told := He.meth_ok (c.fact 43 (f := .meth "Notebook" "last_told") rfl)
  obtain ⟨fd_Notebook_fresh, F_Notebook_fresh⟩ := c.def_ 15 (d := d_Notebook_fresh) rfl
  have g_Notebook_fresh := He.meth_ok (c.fact 44 (f := .meth "Notebook" "fresh") rfl)
  obtain ⟨fd_Notebook_state, F_Notebook_state⟩ := c.def_ 16 (d := d_Notebook_state) rfl
  have g_Notebook_state := He.meth_ok (c.fact 45 (f := .meth "Notebook" "state") rfl)
  obtain ⟨fd_Notebook_source, F_Notebook_source⟩ := c.def_ 17 (d := d_Notebook_source) rfl
  have g_Notebook_source := He.meth_ok (c.fact 46 (f := .meth "Notebook" "source") rfl)
  obtain ⟨fd_Notebook_version, F_Notebook_version⟩ := c.def_ 18 (d := d_Notebook_version) rfl
  have g_Notebook_version := He.meth_ok (c.fact 47 (f := .meth "Notebook" "version") rfl)
  obtain ⟨fd_law_cell, F_law_cell⟩ := c.def_ 19 (d := d_law_cell) rfl
  have g_law_cell := He.glo_ok X G (c.fact 11 (f := .glo "_law_cell") rfl)
  obtain ⟨fd_law_seed, F_law_seed⟩ := c.def_ 20 (d := d_law_seed) rfl
  have g_law_seed := He.glo_ok X G (c.fact 12 (f := .glo "_law_seed") rfl)
  obtain ⟨fd_law_pick, F_law_pick⟩ := c.def_ 21 (d := d_law_pick) rfl
  have g_law_pick := He.glo_ok X G (c.fact 13 (f := .glo "_law_pick") rfl)
  obtain ⟨fd_law_sum, F_law_sum⟩ := c.def_ 22 (d := d_law_sum) rfl
  have g_law_sum := He.glo_ok X G (c.fact 14 (f := .glo "_law_sum") rfl)
  obtain ⟨fd_law_source, F_law_source⟩ := c.def_ 23 (d := d_law_source) rfl
  have g_law_source := He.glo_ok X G (c.fact 15 (f := .glo "_law_source") rfl)
  obtain ⟨fd_law, F_law⟩ := c.def_ 24 (d := d_law) rfl
  have g_law := He.glo_ok X G (c.fact 16 (f := .glo "law") rfl)
  have e := hfa.symm.trans g_law
  cases e
  have b := FunD.bindsA (ps := ["script"]) F_law fun _ _ _ _ _ _ us hl => match us, hl with | [_], _ => rfl
  refine ⟨fd_law, fun s v => b s [v] rfl, fun base _ _ => ?_⟩
  have h_is_within := ok_is_within (P := P) (w := w) (base := base)  F_is_within g_is_within T 
  have h_is_name := ok_is_name (P := P) (w := w) (base := base)  F_is_name g_is_name T (m_SMALL := m_SMALL) (m_BARRED := m_BARRED) (b_BARRED := b_BARRED)
  have h_is_sum := ok_is_sum (P := P) (w := w) (base := base)  F_is_sum g_is_sum T (m_WORDS := m_WORDS) (b_WORDS := b_WORDS) (h_is_within := h_is_within) (m_ROUND := m_ROUND) (h_is_name := h_is_name)
  have h_is_row := ok_is_row (P := P) (w := w) (base := base)  F_is_row g_is_row T (h_is_sum := h_is_sum) (m_MOST_DEEP := m_MOST_DEEP) (h_is_name := h_is_name)
  have h_is_source := ok_is_source (P := P) (w := w) (base := base)  F_is_source g_is_source T (h_is_row := h_is_row) (m_MOST_ROWS := m_MOST_ROWS)
  have h_look := ok_look (P := P) (w := w) (base := base) (c_BadSource := He.ga K "BadSource") F_look g_look T (h_is_source := h_is_source) (x_BadSource := x_BadSource)
  have h_Cell_init := ok_Cell_init (P := P) (w := w) (base := base) (mg := mg)  (U := U) (F := F_Cell_init) (M := M_Cell_init) (g := g_Cell_init) (T := T)
  have h_Notebook_init := ok_Notebook_init (P := P) (w := w) (base := base) (mg := mg)  (U := U) (F := F_Notebook_init) (M := M_Notebook_init) (g := g_Notebook_init) (T := T)
  have h_Notebook_look_cell := ok_Notebook_look_cell (P := P) (w := w) (base := base) (mg := mg) (c_NoCell := He.ga K "NoCell") (U := U) (h_is_within := h_is_within) (x_NoCell := x_NoCell) (F := F_Notebook_look_cell) (g := g_Notebook_look_cell) (T := T)
  have h_Notebook_look_place := ok_Notebook_look_place (P := P) (w := w) (base := base) (mg := mg) (c_BadNumber := He.ga K "BadNumber") (U := U) (h_is_within := h_is_within) (x_BadNumber := x_BadNumber) (F := F_Notebook_look_place) (g := g_Notebook_look_place) (T := T)
  have h_Notebook_put := ok_Notebook_put (P := P) (w := w) (base := base) (mg := mg) (c_BadNumber := He.ga K "BadNumber") (c_BadSource := He.ga K "BadSource") (c_Full := He.ga K "Full") (U := U) (i_Cell := h_Cell_init) (m_MOST_CELLS := m_MOST_CELLS) (x_Full := x_Full) (h_look := h_look) (h_Notebook_look_place := h_Notebook_look_place) (F := F_Notebook_put) (g := g_Notebook_put) (T := T)
  have h_Notebook_change := ok_Notebook_change (P := P) (w := w) (base := base) (mg := mg) (c_NoCell := He.ga K "NoCell") (c_BadNumber := He.ga K "BadNumber") (c_BadSource := He.ga K "BadSource") (c_Behind := He.ga K "Behind") (U := U) (x_Behind := x_Behind) (h_look := h_look) (h_is_within := h_is_within) (x_BadNumber := x_BadNumber) (h_Notebook_look_cell := h_Notebook_look_cell) (F := F_Notebook_change) (g := g_Notebook_change) (T := T)
  have h_Notebook_setter := ok_Notebook_setter (P := P) (w := w) (base := base) (mg := mg)  (U := U) (F := F_Notebook_setter) (g := g_Notebook_setter) (T := T)
  have h_Notebook_last_told := ok_Notebook_last_told (P := P) (w := w) (base := base) (mg := mg)  (U := U) (F := F_Notebook_last_told) (g := g_Notebook_last_told) (T := T)
  have h_Notebook_holds := ok_Notebook_holds (P := P) (w := w) (base := base) (mg := mg)  (U := U) (h_Notebook_last_told := h_Notebook_last_told) (h_Notebook_setter := h_Notebook_setter) (F := F_Notebook_holds) (g := g_Notebook_holds) (T := T)
  have h_Notebook_fresh := ok_Notebook_fresh (P := P) (w := w) (base := base) (mg := mg)  (U := U) (h_Notebook_holds := h_Notebook_holds) (F := F_Notebook_fresh) (g := g_Notebook_fresh) (T := T)
  have h_Notebook_state := ok_Notebook_state (P := P) (w := w) (base := base) (mg := mg) (c_NoCell := He.ga K "NoCell") (U := U) (h_Notebook_fresh := h_Notebook_fresh) (h_Notebook_look_cell := h_Notebook_look_cell) (F := F_Notebook_state) (g := g_Notebook_state) (T := T)
  have h_Notebook_source := ok_Notebook_source (P := P) (w := w) (base := base) (mg := mg) (c_NoCell := He.ga K "NoCell") (U := U) (h_Notebook_look_cell := h_Notebook_look_cell) (F := F_Notebook_source) (g := g_Notebook_source) (T := T)
  have h_Notebook_version := ok_Notebook_version (P := P) (w := w) (base := base) (mg := mg) (c_NoCell := He.ga K "NoCell") (U := U) (h_Notebook_look_cell := h_Notebook_look_cell) (F := F_Notebook_version) (g := g_Notebook_version) (T := T)
  have h_law_cell := ok_law_cell (P := P) (w := w) (base := base)  F_law_cell g_law_cell T 
  have h_law_seed := ok_law_seed (P := P) (w := w) (base := base)  F_law_seed g_law_seed T 
  have h_law_pick := ok_law_pick (P := P) (w := w) (base := base)  F_law_pick g_law_pick T 
  have h_law_sum := ok_law_sum (P := P) (w := w) (base := base)  F_law_sum g_law_sum T (h__law_seed := h_law_seed) (h__law_pick := h_law_pick)
  have h_law_source := ok_law_source (P := P) (w := w) (base := base)  F_law_source g_law_source T (h__law_pick := h_law_pick) (h__law_sum := h_law_sum) (h__law_seed := h_law_seed)
  exact (ok_law F_law g_law T (U := U) (h_Notebook_state := h_Notebook_state) (h_Notebook_fresh := h_Notebook_fresh) (h__law_cell := h_law_cell) (h_Notebook_source := h_Notebook_source) (h_Notebook_version := h_Notebook_version) (h__law_pick := h_law_pick) (x_Behind := x_Behind) (e_Behind_Behind := He.exm_ok (c.fact 85 (f := .exm "Behind" "Behind" true) rfl)) (h_Notebook_change := h_Notebook_change) (h__law_source := h_law_source) (h__law_seed := h_law_seed) (h_Notebook_put := h_Notebook_put) (i_Notebook := h_Notebook_init)).1
end K14
open PySem PySem.W PySem.Calls PyProof.Rows
theorem PySem.Challenge.cw_leancells_k14_hands_holds : PySem.Challenge.rw_leancells_k14_hands.Holds := by
  w_on; o_law
  refine HandSHeadRun.head_any (r := OpenLaw.row PySem.Challenge.rw_leancells_k14_hands) (q := view (OpenLaw.row PySem.Challenge.rw_leancells_k14_hands).prog [39]) (H := K14.hk) (ob := K14.ob) (M := 6000) (loose := K14.looseL) (d := HandSHeadRun.topDef (OpenLaw.row PySem.Challenge.rw_leancells_k14_hands).prog 39) (kwd := []) K14.ob_eq
    (by kernel_rfl) (fun s => by kernel_rfl) K14.run (by kernel_rfl) (by kernel_rfl) (by kernel_rfl) (by rfl) (by first | assumption | decide +kernel) (by decide +kernel) ⟨rfl, rfl, rfl, rfl, rfl, by decide +kernel⟩ ?hw ?hc
  case hw => w_witness2
  case hc =>
    refine L2.walk_ofE (l := PySem.Challenge.rw_leancells_k14_hands) (n := 63) (k := 30) (x := "script") (CX := L2.CX0) rfl (by decide) (by kernel_rfl) ⟨rfl, by decide, by decide⟩ ?F (fun _ _ _ _ z => z)
    intro w mg fa h Y G hmg0
    obtain ⟨K, KX, c⟩ := Y
    have hmg : mg ("law" : PySem.Str) = some (.ref fa) := by
      have e : (HandSHeadRun.topDef (OpenLaw.row PySem.Challenge.rw_leancells_k14_hands).prog 39).name = ("law" : PySem.Str) := by kernel_rfl
      rw [← e]
      exact hmg0
    obtain ⟨fd, hb, hF⟩ := K14.facts (P := (PySem.Challenge.rw_leancells_k14_hands).prog) (w := w) KX G hmg c
    exact ⟨K, fd, LC.spLaw K, KX, hb, fun H a ns hl _ hS => ⟨a, ns, rfl, hS, hl, fun _ => rfl⟩, hF⟩
