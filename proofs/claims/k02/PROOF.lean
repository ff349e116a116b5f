import PyProof.Rows.All
import Wide.All
import OpenK.AllK
import Wide.FinOn
import KE.KStateDown
import Lean
import HandS.Base
import HandS.Call
import HandS.List
import HandS.Comp
import HandS.Ends
import HandS.Dict
import HandS.Iter
import HandS.Text
import HandS.Exc
import HandS.Words
import HandS.WordsList
import HandS.WordsExc
import HandS.WordsDict
import HandS.Defaults
import HandS.More
import HandS.Flow
import HandS.Style
import HandS.IsInst
import HandS.ExcOwn
import HandS.Evl
import HandS.TupAny
import HandS.TupMul
import HandS.Set
import HandS.TupSets
import HandS.SetFor
import HandS.Head0
import HandS.Head1
import HandS.Head2
import HandS.HeadEnd
import HandS.HeadHook1
import HandS.HeadHook2
import HandS.HeadHook3
import HandS.HeadHook4
import HandS.TryOnly
import HandS.Lambda
import PySem.Challenge.RW_leancells_k02_sources
set_option Elab.async false
set_option linter.all false
set_option maxRecDepth 100000
set_option maxHeartbeats 8000000
namespace LC
open PySem L2 Evl
abbrev Frag := PySem.W.Frag
/-! ### data in the heap: lists of the program's own, tuples of any -/
mutual
inductive Dt (K : Frag) (H : Hp) : V → PyData → Prop
  | non : Dt K H .non .none
  | bl (b : Bool) : Dt K H (.bl b) (.bool b)
  | int (i : Int) : Dt K H (.int i) (.int i)
  | str (x : Str) : Dt K H (.str x) (.str x)
  | lst {a : Addr} {xs : List V} {ds : List PyData} : H a = some (.lst xs) → DtAll K H xs ds → Dt K H (.ref a) (.list ds)
  | tup {a : Addr} {xs : List V} {ds : List PyData} : SqT K H a xs → DtAll K H xs ds → Dt K H (.ref a) (.tuple ds)
inductive DtAll (K : Frag) (H : Hp) : List V → List PyData → Prop
  | nil : DtAll K H [] []
  | cons {v : V} {vs : List V} {d : PyData} {ds : List PyData} : Dt K H v d → DtAll K H vs ds → DtAll K H (v :: vs) (d :: ds)
end
mutual
theorem dt_dp {K : Frag} {H : Hp} : ∀ (d : PyData) (v : V), Dt K H v d → Dp K H v d
  | .none, _, h => by cases h; exact .non
  | .bool b, _, h => by cases h; exact .bl b
  | .int i, _, h => by cases h; exact .int i
  | .str x, _, h => by cases h; exact .str x
  | .list ds, _, h => by
    cases h with
    | lst hs ha => exact .lst (sq_of hs) (dtAll_dp ds _ ha)
  | .tuple ds, _, h => by
    cases h with
    | tup hs ha => exact .tup hs (dtAll_dp ds _ ha)
  | .dict _, _, h => by cases h
theorem dtAll_dp {K : Frag} {H : Hp} : ∀ (ds : List PyData) (vs : List V), DtAll K H vs ds → DpAll K H vs ds
  | [], _, h => by cases h; exact .nil
  | d :: ds, _, h => by
    cases h with
    | cons h1 h2 => exact .cons (dt_dp d _ h1) (dtAll_dp ds _ h2)
end
/-! ### data stay where the heap only grows -/
mutual
theorem dp_ex {K : Frag} {H H' : Hp} (e : Ex H H') : ∀ (d : PyData) (v : V), Dt K H v d → Dt K H' v d
  | .none, _, h => by cases h; exact .non
  | .bool b, _, h => by cases h; exact .bl b
  | .int i, _, h => by cases h; exact .int i
  | .str x, _, h => by cases h; exact .str x
  | .list ds, _, h => by
    cases h with
    | lst hs ha => exact .lst (e _ _ hs) (dpAll_ex e ds _ ha)
  | .tuple ds, _, h => by
    cases h with
    | tup hs ha => exact .tup (ex_t e hs) (dpAll_ex e ds _ ha)
  | .dict _, _, h => by cases h
theorem dpAll_ex {K : Frag} {H H' : Hp} (e : Ex H H') : ∀ (ds : List PyData) (vs : List V), DtAll K H vs ds → DtAll K H' vs ds
  | [], _, h => by cases h; exact .nil
  | d :: ds, _, h => by
    cases h with
    | cons h1 h2 => exact .cons (dp_ex e d _ h1) (dpAll_ex e ds _ h2)
end
section
variable {K : Frag} {H H' : Hp}
theorem dpAll_len : ∀ {vs : List V} {ds : List PyData}, DtAll K H vs ds → vs.length = ds.length
  | _, _, .nil => rfl
  | _, _, .cons _ t => congrArg (· + 1) (dpAll_len t)
theorem dpAll_at : ∀ {vs : List V} {ds : List PyData} {i : Nat} {d : PyData}, DtAll K H vs ds → ds[i]? = some d → ∃ v, vs[i]? = some v ∧ Dt K H v d
  | _, _, _, _, .nil, e => by simp at e
  | _, _, 0, _, .cons h _, e => by simp at e; subst e; exact ⟨_, rfl, h⟩
  | _, _, i + 1, d, .cons _ t, e => by
    obtain ⟨v, h1, h2⟩ := dpAll_at (i := i) (d := d) t (by simpa using e)
    exact ⟨v, by simpa using h1, h2⟩
theorem dpAll_of : ∀ {vs : List V} {ds : List PyData} {i : Nat} {v : V}, DtAll K H vs ds → vs[i]? = some v → ∃ d, ds[i]? = some d ∧ Dt K H v d
  | _, _, _, _, .nil, e => by simp at e
  | _, _, 0, _, .cons h _, e => by simp at e; subst e; exact ⟨_, rfl, h⟩
  | _, _, i + 1, d, .cons _ t, e => by
    obtain ⟨v, h1, h2⟩ := dpAll_of (i := i) t (by simpa using e)
    exact ⟨v, by simpa using h1, h2⟩
theorem dpAll_app : ∀ {vs ws : List V} {ds es : List PyData}, DtAll K H vs ds → DtAll K H ws es → DtAll K H (vs ++ ws) (ds ++ es)
  | _, _, _, _, .nil, h => h
  | _, _, _, _, .cons a t, h => .cons a (dpAll_app t h)
theorem dpAll_drop : ∀ {vs : List V} {ds : List PyData} (n : Nat), DtAll K H vs ds → DtAll K H (vs.drop n) (ds.drop n)
  | _, _, 0, h => h
  | _, _, _ + 1, .nil => .nil
  | _, _, n + 1, .cons _ t => dpAll_drop n t
theorem dpAll_take : ∀ {vs : List V} {ds : List PyData} (n : Nat), DtAll K H vs ds → DtAll K H (vs.take n) (ds.take n)
  | _, _, 0, _ => .nil
  | _, _, _ + 1, .nil => .nil
  | _, _, n + 1, .cons a t => .cons a (dpAll_take n t)
theorem dpAll_one {v : V} {d : PyData} (h : Dt K H v d) : DtAll K H [v] [d] := .cons h .nil
theorem dp_tup {v : V} {ds : List PyData} (h : Dt K H v (.tuple ds)) : ∃ a xs, v = .ref a ∧ SqT K H a xs ∧ DtAll K H xs ds := by
  cases h with
  | tup hs ha => exact ⟨_, _, rfl, hs, ha⟩
theorem dp_lst {v : V} {ds : List PyData} (h : Dt K H v (.list ds)) : ∃ a xs, v = .ref a ∧ H a = some (.lst xs) ∧ DtAll K H xs ds := by
  cases h with
  | lst hs ha => exact ⟨_, _, rfl, hs, ha⟩
theorem dp_int {v : V} {i : Int} (h : Dt K H v (.int i)) : v = .int i := by cases h; rfl
theorem dp_str {v : V} {x : Str} (h : Dt K H v (.str x)) : v = .str x := by cases h; rfl
theorem dp_bool {v : V} {b : Bool} (h : Dt K H v (.bool b)) : v = .bl b := by cases h; rfl
theorem dp_none {v : V} (h : Dt K H v .none) : v = .non := by cases h; rfl
end
/-! ### what evaluates to which data -/
/-- H: where the data at hand lie; H1, H2: the heap ahead and behind; Hd: where the new data lie: among H's and what is new -/
structure Gr (H H1 H2 Hd : Hp) : Prop where
  ex : Ex H1 H2
  xd : Ex H Hd
  d2 : Ex Hd H2
  fr : ∀ a, H a = none → H1 a ≠ none → Hd a = none
theorem Gr.base {H H1 H2 : Hp} (a : Ex H H1) (b : Ex H1 H2) : Gr H H1 H2 H := ⟨b, Ex.refl H, a.trans b, fun _ h _ => h⟩
def join (A B : Hp) : Hp := fun a => match A a with
  | some o => some o
  | none => B a
theorem join_l {A B : Hp} : Ex A (join A B) := fun a o h => by unfold join; rw [h]
theorem join_r {A B C : Hp} (ha : Ex A C) (hb : Ex B C) : Ex B (join A B) := fun a o h => by
  unfold join
  cases q : A a with
  | none => exact h
  | some u =>
    have h1 := ha a u q
    have h2 := hb a o h
    rw [h1] at h2
    exact h2
theorem join_to {A B C : Hp} (ha : Ex A C) (hb : Ex B C) : Ex (join A B) C := fun a o h => by
  unfold join at h
  cases q : A a with
  | none => rw [q] at h; exact hb a o h
  | some u => rw [q] at h; cases h; exact ha a _ q
theorem ne_none {H H' : Hp} {a : Addr} (e : Ex H H') (h : H a ≠ none) : H' a ≠ none := by
  cases q : H a with
  | none => exact absurd q h
  | some o => rw [e a o q]; exact fun z => nomatch z
theorem Gr.join {H H1 H2 H3 A B : Hp} (x : Gr H H1 H2 A) (y : Gr H H2 H3 B) : Gr H H1 H3 (join A B) :=
  ⟨x.ex.trans y.ex, x.xd.trans join_l, join_to (x.d2.trans y.ex) y.d2, fun a h0 h1 => by
    have e1 := x.fr a h0 h1
    have e2 := y.fr a h0 (ne_none x.ex h1)
    unfold LC.join
    rw [e1]
    exact e2⟩
theorem Gr.more {H H1 H2 H3 A : Hp} (x : Gr H H1 H2 A) (e : Ex H2 H3) : Gr H H1 H3 A := ⟨x.ex.trans e, x.xd, x.d2.trans e, x.fr⟩
theorem Gr.after {H H1 H2 H3 A : Hp} (e : Ex H1 H2) (x : Gr H H2 H3 A) : Gr H H1 H3 A := ⟨e.trans x.ex, x.xd, x.d2, fun a h0 h1 => x.fr a h0 (ne_none e h1)⟩
/-- a new object for the data -/
theorem Gr.new {H H1 H2 Hd : Hp} {p : Addr} (o : HO) (x : Gr H H1 H2 Hd) (hp : H2 p = none) : Gr H H1 (upd H2 p o) (upd Hd p o) := by
  have hd : Hd p = none := fresh_back x.d2 hp
  refine ⟨x.ex.trans (Ex.new hp), x.xd.trans (Ex.new hd), fun a u h => ?_, fun a h0 h1 => ?_⟩
  · by_cases e : a = p
    · subst e
      rw [upd_same] at h ⊢
      exact h
    · rw [upd_ne e] at h ⊢
      exact x.d2 a u h
  · have e : a ≠ p := fun z => h1 (by rw [z]; exact fresh_back x.ex hp)
    rw [upd_ne e]
    exact x.fr a h0 h1
/-- what was known in a part is known in the whole -/
theorem Gr.wide {H0 H H1 H2 Hd : Hp} (e : Ex H0 H) (e1 : Ex H H1) (x : Gr H0 H1 H2 Hd) : Gr H H1 H2 (LC.join H Hd) :=
  ⟨x.ex, join_l, join_to (e1.trans x.ex) x.d2, fun a h0 h1 => by
    have q : H0 a = none := fresh_back e h0
    have z := x.fr a q h1
    unfold LC.join
    rw [h0]
    exact z⟩
theorem Gr.wide_r {H0 H H1 H2 Hd : Hp} (e1 : Ex H H1) (x : Gr H0 H1 H2 Hd) : Ex Hd (LC.join H Hd) := join_r (e1.trans x.ex) x.d2
/-- te comes to a value of the data d; the heap only grows -/
def EvD (K : Frag) (te : TE) (σ : L2.St) (H : Hp) (d : PyData) : Prop := ∀ H1, Ex H H1 → ∀ Q : VK, (∀ v H2 Hd, Gr H H1 H2 Hd → Dt K Hd v d → Q v H2) → te σ H1 Q
def EvDs (K : Frag) (ta : TA) (σ : L2.St) (H : Hp) (ds : List PyData) : Prop := ∀ H1, Ex H H1 → ∀ Q : List V → Hp → Prop, (∀ vs H2 Hd, Gr H H1 H2 Hd → DtAll K Hd vs ds → Q vs H2) → ta σ H1 Q
/-- a promise over data: from such arguments this comes, and the heap only grows -/
def spD (K : Frag) (F : List PyData → PyData → Prop) : Sp := fun vs H Q _ => ∃ ds d H0, Ex H0 H ∧ DtAll K H0 vs ds ∧ F ds d ∧ ∀ v H2 Hd, Gr H0 H H2 Hd → Dt K Hd v d → Q v H2
section
variable {K : Frag} {σ : L2.St} {H H' : Hp} {ta tb te tx : TE} {t u : TT} {d e : PyData}
theorem EvD.mono (x : Ex H H') (h : EvD K te σ H d) : EvD K te σ H' d := fun H1 a Q q => h H1 (x.trans a) Q fun v H2 Hd g hd => q v H2 _ (g.wide x a) (dp_ex (g.wide_r a) _ _ hd)
theorem EvDs.mono {ta : TA} {ds : List PyData} (x : Ex H H') (h : EvDs K ta σ H ds) : EvDs K ta σ H' ds := fun H1 a Q q => h H1 (x.trans a) Q fun v H2 Hd g hd => q v H2 _ (g.wide x a) (dpAll_ex (g.wide_r a) _ _ hd)
theorem evd_of {v : V} (h : Ev te σ H v) (hd : Dt K H v d) : EvD K te σ H d := fun H1 e Q q => h H1 e Q fun H2 e2 => q v H2 H (Gr.base e e2) hd
theorem evd_var {i : Nat} {v : V} (hd : Dt K H v d) (h : σ[i]? = some (some v) := by rfl) : EvD K (tVar i) σ H d := evd_of (ev_var h) hd
theorem evd_int {i : Int} : EvD K (tC (.int i)) σ H (.int i) := evd_of ev_c (.int i)
theorem evd_str {x : Str} : EvD K (tC (.str x)) σ H (.str x) := evd_of ev_c (.str x)
theorem evd_bl {b : Bool} : EvD K (tC (.bl b)) σ H (.bool b) := evd_of ev_c (.bl b)
theorem evd_non : EvD K (tC .non) σ H .none := evd_of ev_c .non
theorem evd_is {d' : PyData} (h : EvD K te σ H d) (e : d = d') : EvD K te σ H d' := e ▸ h
theorem ev_int {i : Int} (h : EvD K te σ H (.int i)) : Ev te σ H (.int i) := fun H1 e Q q => h H1 e Q fun v H2 Hd g hd => by rw [dp_int hd]; exact q H2 g.ex
theorem ev_str {x : Str} (h : EvD K te σ H (.str x)) : Ev te σ H (.str x) := fun H1 e Q q => h H1 e Q fun v H2 Hd g hd => by rw [dp_str hd]; exact q H2 g.ex
theorem ev_bl {b : Bool} (h : EvD K te σ H (.bool b)) : Ev te σ H (.bl b) := fun H1 e Q q => h H1 e Q fun v H2 Hd g hd => by rw [dp_bool hd]; exact q H2 g.ex
theorem evd_b {b : Bool} (h : Ev te σ H (.bl b)) : EvD K te σ H (.bool b) := evd_of h (.bl b)
theorem evd_i {i : Int} (h : Ev te σ H (.int i)) : EvD K te σ H (.int i) := evd_of h (.int i)
theorem evd_s {x : Str} (h : Ev te σ H (.str x)) : EvD K te σ H (.str x) := evd_of h (.str x)
theorem eds_nil : EvDs K tNil σ H [] := fun H1 e _ q => q [] H1 H (Gr.base e (Ex.refl H1)) .nil
theorem eds_cons {tr : TA} {ds : List PyData} (h : EvD K te σ H d) (hr : EvDs K tr σ H ds) : EvDs K (tCons te tr) σ H (d :: ds) := fun H1 e _ q =>
  h H1 e _ fun v H2 A g hd => hr H2 (e.trans g.ex) _ fun vs H3 B g2 hds => q (v :: vs) H3 _ (g.join g2) (.cons (dp_ex join_l _ _ hd) (dpAll_ex (join_r (g.d2.trans g2.ex) g2.d2) _ _ hds))
theorem evd_tup {ta : TA} {ds : List PyData} (h : EvDs K ta σ H ds) (hl : ds.length ≤ 100000) : EvD K (tTup ta) σ H (.tuple ds) := fun H1 e _ q =>
  h H1 e _ fun vs H2 Hd g hds => ⟨by rw [dpAll_len hds]; exact sz_of hl, fun p hp => q (.ref p) _ _ (g.new _ hp) (.tup (st_of upd_same) (dpAll_ex (Ex.new (fresh_back g.d2 hp)) _ _ hds))⟩
theorem evd_lst {ta : TA} {ds : List PyData} (h : EvDs K ta σ H ds) (hl : ds.length ≤ 100000) : EvD K (tLst ta) σ H (.list ds) := fun H1 e _ q =>
  h H1 e _ fun vs H2 Hd g hds => ⟨by rw [dpAll_len hds]; exact sz_of hl, fun p hp => q (.ref p) _ _ (g.new _ hp) (.lst upd_same (dpAll_ex (Ex.new (fresh_back g.d2 hp)) _ _ hds))⟩
theorem evd_call {F : List PyData → PyData → Prop} {ta : TA} {ds : List PyData} {E : XK} (h : EvDs K ta σ H ds) (hf : F ds d) : EvD K (tCall (spD K F) [] E ta) σ H d := fun H1 e Q q =>
  h H1 e _ fun vs H2 A g hds => ⟨ds, d, A, g.d2, by rw [List.append_nil]; exact hds, hf, fun v H3 B g2 hd => q v H3 B
    ⟨g.ex.trans g2.ex, g.xd.trans g2.xd, g2.d2, fun a h0 h1 => g2.fr a (g.fr a h0 h1) (ne_none g.ex h1)⟩ hd⟩
/-- tests -/
theorem et_tru {b : Bool} (h : EvD K te σ H d) (ht : ∀ v H1, Dt K H1 v d → TruV K v H1 b) : EvT (fun σ H Q => te σ H fun x H' => ∃ k, TruV K x H' k ∧ Q k H') σ H b := fun H1 e Q q =>
  h H1 e _ fun v H2 Hd g hd => ⟨b, ht v H2 (dp_ex g.d2 _ _ hd), q H2 g.ex⟩
theorem evd_if {b : Bool} (h : EvT t σ H b) (h1 : b = true → EvD K ta σ H d) (h2 : b = false → EvD K tb σ H d) : EvD K (tIf t ta tb) σ H d := fun H1 e Q q => h H1 e _ fun H2 e2 => by
  cases b with
  | true =>
    show ta σ H2 Q
    exact h1 rfl H2 (e.trans e2) Q fun v H3 Hd g => q v H3 Hd (g.after e2)
  | false =>
    show tb σ H2 Q
    exact h2 rfl H2 (e.trans e2) Q fun v H3 Hd g => q v H3 Hd (g.after e2)
/-! statements: H the heap as it is, H0 the part where the data lie -/
variable {D : Ends} {tu tw : TS} {H0 : Hp}
theorem s_retD (h : EvD K te σ H0 d) (x : Ex H0 H) (k : ∀ v H1 Hd, Gr H0 H H1 Hd → Dt K Hd v d → D.rt v H1) : tRet te D σ H := h H x _ k
theorem s_asgD {i : Nat} (h : EvD K te σ H0 d) (x : Ex H0 H) (k : ∀ v H1 Hd, Gr H0 H H1 Hd → Dt K Hd v d → D.nx (σ.set i (some v)) H1) : tAsg te (gName i) D σ H := h H x _ k
theorem s_dropD (h : EvD K te σ H0 d) (x : Ex H0 H) (k : ∀ v H1 Hd, Gr H0 H H1 Hd → Dt K Hd v d → D.nx σ H1) : tDrop te D σ H := h H x _ k
theorem s_ifD {b : Bool} (h : EvT t σ H0 b) (x : Ex H0 H) (h1 : b = true → ∀ H1, Ex H H1 → tu D σ H1) (h2 : b = false → ∀ H1, Ex H H1 → tw D σ H1) : tIfS t tu tw D σ H := h H x _ fun H1 e => by
  cases b with
  | true => exact h1 rfl H1 e
  | false => exact h2 rfl H1 e
end
end LC

namespace LC
open PySem L2 Evl
/-! ### universal operators: the reading chooses -/
def rOr (r s : R2) : R2 := fun x y H Q => r x y H Q ∨ s x y H Q
abbrev rPlusI : R2 := rI0 fun i j => .int (i + j)
def rPlusS : R2 := fun x y H Q => ∃ i j, x = .str i ∧ y = .str j ∧ i.length + j.length ≤ sizeLine ∧ Q (.str (i ++ j)) H
def rAddU (K : Frag) : R2 := rOr rPlusI (rOr rPlusS (rOr rCat (rCatA K)))
def rMulU (K : Frag) : R2 := rOr (rI CMul fun i j => .int (i * j)) (rOr rRep (rRepT K))
def rInU (K : Frag) (neg : Bool) : R2 := rOr (rIn K neg) (fun x y H Q => ∃ (c : Nat) (z : Str), x = .str ⟨#[c]⟩ ∧ y = .str z ∧ Q (.bl (if neg then !decide (c ∈ z.cps.toList) else decide (c ∈ z.cps.toList))) H)
def rSlU (K : Frag) : V → Option Int → Option Int → Hp → VK → Prop := fun x lo hi H Q => rSlL K x lo hi H Q ∨ rSlA K x lo hi H Q ∨ rSlS x lo hi H Q
def iSeq (K : Frag) (tl : TE) : TI := fun σ H R => iList K tl σ H R ∨ iTup K tl σ H R ∨ iStr tl σ H R
section
variable {X : Cx}
theorem opAdd : OpR X (binaryOp .Add) (rAddU X.K) := OpR.or op_add (OpR.or op_add_str (OpR.or op_cat op_catA))
theorem opMul : OpR X (binaryOp .Mult) (rMulU X.K) := OpR.or op_mul (OpR.or op_rep op_repT)
theorem opIn : OpR X (compareOp .In) (rInU X.K false) := OpR.or op_in_seq (by
  intro pins s σ H x y v u Q I rx ry h
  exact op_in_sign pins s σ H x y v u Q I rx ry h)
theorem opNotIn : OpR X (compareOp .NotIn) (rInU X.K true) := OpR.or op_notIn_seq (by
  intro pins s σ H x y v u Q I rx ry h
  exact op_notIn_sign pins s σ H x y v u Q I rx ry h)
theorem slU : SlR X (rSlU X.K) := SlR.or sl_list (SlR.or sl_tupA sl_str)
theorem pi_seq {tg e : Expr} {te : TE} (he : PE X e te) : PI X tg e (iSeq X.K te) := by
  refine ⟨fun pins s σ H R I h => ?_⟩
  rcases h with h | h | h
  · exact (pi_list he).run pins s σ H R I h
  · exact (pi_tup he).run pins s σ H R I h
  · exact (pi_str he).run pins s σ H R I h
end
/-! ### the type of data -/
def tyN : PyData → String
  | .none => "NoneType"
  | .bool _ => "bool"
  | .int _ => "int"
  | .str _ => "str"
  | .list _ => "list"
  | .tuple _ => "tuple"
  | .dict _ => "dict"
def isT (d : PyData) (T : String) : Bool := tyN d == T || (tyN d == "bool" && T == "int")
theorem kitB_all : ["NoneType", "bool", "int", "str", "list", "tuple", "dict"].all (fun a => ["bool", "int", "str", "list", "tuple", "dict"].all fun b => decide (kitB a b = some (a == b || (a == "bool" && b == "int")))) = true := by decide +kernel
theorem tyN_mem (d : PyData) : tyN d ∈ ["NoneType", "bool", "int", "str", "list", "tuple", "dict"] := by cases d <;> simp [tyN]
theorem kit_isT {K : Frag} (d : PyData) {T : String} (hT : T ∈ ["bool", "int", "str", "list", "tuple", "dict"]) : PySem.W.kitOne K (.type (tyN d)) (.type T) = some (isT d T) :=
  kit_ty (of_decide_eq_true (List.all_eq_true.mp (List.all_eq_true.mp kitB_all _ (tyN_mem d)) _ hT))
section
variable {K : Frag} {σ : L2.St} {H H' : Hp} {ta tb te tx : TE} {t u : TT} {d e : PyData}
theorem dp_ty {v : V} (h : Dt K H v d) : TyX K H v (.type (tyN d)) := by
  cases h with
  | non => exact .base .non
  | bl b => exact .base (.bl b)
  | int i => exact .base (.int i)
  | str x => exact .base (.str x)
  | lst hs _ => exact .base (.lst hs)
  | tup hs _ =>
    rcases hs with (hs | ⟨o, hs⟩) | ⟨o, its, n, hk, hc, _⟩
    · exact .base (.tup hs)
    · exact .fTuple hs
    · exact .kTuple hk hc
theorem ev_isi {T : String} (h : EvD K te σ H d) (hT : T ∈ ["bool", "int", "str", "list", "tuple", "dict"]) : Ev (tCB (rIsi K) (tCons te (tCons (tC (.ty T)) tNil))) σ H (.bl (isT d T)) := fun H1 e Q q =>
  h H1 e _ fun v H2 Hd g hd => ⟨v, .ty T, _, _, _, rfl, .ty T, dp_ty (dp_ex g.d2 _ _ hd), kit_isT d hT, q H2 g.ex⟩
/-! ints, texts -/
theorem ev_addI {i j : Int} (ha : EvD K ta σ H (.int i)) (hb : EvD K tb σ H (.int j)) : EvD K (tOp (rAddU K) ta tb) σ H (.int (i + j)) := evd_i (ev_op (ev_int ha) (ev_int hb) fun H1 _ _ q => .inl ⟨i, j, rfl, rfl, q H1 (Ex.refl H1)⟩)
theorem ev_I0 {g : Int → Int → V} {i j : Int} (ha : EvD K ta σ H (.int i)) (hb : EvD K tb σ H (.int j)) : Ev (tOp (rI0 g) ta tb) σ H (g i j) := ev_op (ev_int ha) (ev_int hb) rv_I0
theorem ev_I {C : Int → Int → Prop} {g : Int → Int → V} {i j : Int} (ha : EvD K ta σ H (.int i)) (hb : EvD K tb σ H (.int j)) (hc : C i j) : Ev (tOp (rI C g) ta tb) σ H (g i j) := ev_op (ev_int ha) (ev_int hb) (rv_I hc)
theorem evd_mulI {i j : Int} (ha : EvD K ta σ H (.int i)) (hb : EvD K tb σ H (.int j)) (hc : CMul i j) : EvD K (tOp (rMulU K) ta tb) σ H (.int (i * j)) := evd_i (ev_op (ev_int ha) (ev_int hb) fun H1 _ _ q => .inl ⟨i, j, rfl, rfl, hc, q H1 (Ex.refl H1)⟩)
/-! two data operands in a row -/
theorem evd_op {r : R2} {z : PyData} (ha : EvD K ta σ H d) (hb : EvD K tb σ H e) (hr : ∀ x y H1 A, Ex A H1 → Dt K A x d → Dt K A y e → ∀ Q : VK, (∀ v H2 B, Gr A H1 H2 B → Dt K B v z → Q v H2) → r x y H1 Q) : EvD K (tOp r ta tb) σ H z := fun H1 e1 Q q =>
  ha H1 e1 _ fun x H2 A g hx => hb H2 (e1.trans g.ex) _ fun y H3 B g2 hy => hr x y H3 _ (g.join g2).d2 (dp_ex join_l _ _ hx) (dp_ex (join_r (g.d2.trans g2.ex) g2.d2) _ _ hy) Q fun v H4 C g3 hv => q v H4 C
    ⟨(g.ex.trans g2.ex).trans g3.ex, (g.join g2).xd.trans g3.xd, g3.d2, fun a h0 h1 => g3.fr a ((g.join g2).fr a h0 h1) (ne_none (g.ex.trans g2.ex) h1)⟩ hv
theorem ev_opd {r : R2} {z : V} (ha : EvD K ta σ H d) (hb : EvD K tb σ H e) (hr : ∀ x y H1, Dt K H1 x d → Dt K H1 y e → ∀ Q : VK, Q z H1 → r x y H1 Q) : Ev (tOp r ta tb) σ H z := fun H1 e1 Q q =>
  ha H1 e1 _ fun x H2 A g hx => hb H2 (e1.trans g.ex) _ fun y H3 B g2 hy => hr x y H3 (dp_ex (g.d2.trans g2.ex) _ _ hx) (dp_ex g2.d2 _ _ hy) Q (q H3 (g.ex.trans g2.ex))
theorem ev_eq (ha : EvD K ta σ H d) (hb : EvD K tb σ H e) (hd : SeqAt.shaped d = true) (he : SeqAt.shaped e = true) : Ev (tOp (rEqD K) ta tb) σ H (.bl (PyData.eqv d e)) := ev_opd ha hb fun x y H1 hx hy Q q => ⟨d, e, dt_dp _ _ hx, dt_dp _ _ hy, hd, he, q⟩
theorem ev_ne (ha : EvD K ta σ H d) (hb : EvD K tb σ H e) (hd : SeqAt.shaped d = true) (he : SeqAt.shaped e = true) : Ev (tOp (rNeD K) ta tb) σ H (.bl (!PyData.eqv d e)) := ev_opd ha hb fun x y H1 hx hy Q q => ⟨d, e, dt_dp _ _ hx, dt_dp _ _ hy, hd, he, q⟩
/-- an item -/
theorem atI_dp {vs : List V} {ds : List PyData} {i : Int} {d : PyData} (h : DtAll K H vs ds) (e : atI ds i = some d) : ∃ v, atI vs i = some v ∧ Dt K H v d := by
  unfold atI at e ⊢
  rw [dpAll_len h]
  cases q : ixN ds.length i with
  | none => rw [q] at e; cases e
  | some j =>
    rw [q] at e
    exact dpAll_at h e
theorem evd_ixT {ds : List PyData} {i : Int} (ha : EvD K ta σ H (.tuple ds)) (hb : EvD K tb σ H (.int i)) (hi : atI ds i = some d) : EvD K (tOp (rIx K) ta tb) σ H d := evd_op ha hb fun x y H1 A e hx hy Q q => by
  obtain ⟨a, xs, rfl, hs, hall⟩ := dp_tup hx
  cases hy
  obtain ⟨v, hv, hd⟩ := atI_dp hall hi
  exact .inr (.inl ⟨a, xs, i, v, rfl, rfl, ex_t e hs, hv, q v H1 A (Gr.base e (Ex.refl H1)) hd⟩)
theorem evd_ixL {ds : List PyData} {i : Int} (ha : EvD K ta σ H (.list ds)) (hb : EvD K tb σ H (.int i)) (hi : atI ds i = some d) : EvD K (tOp (rIx K) ta tb) σ H d := evd_op ha hb fun x y H1 A e hx hy Q q => by
  obtain ⟨a, xs, rfl, hs, hall⟩ := dp_lst hx
  cases hy
  obtain ⟨v, hv, hd⟩ := atI_dp hall hi
  exact .inl ⟨a, xs, i, v, rfl, rfl, sq_of (e _ _ hs), hv, q v H1 A (Gr.base e (Ex.refl H1)) hd⟩
/-- len -/
theorem ev_lenT {ds : List PyData} (ha : EvD K ta σ H (.tuple ds)) : Ev (tCB (fun xs H Q => ∃ x n, xs = [x] ∧ LenV K x H n ∧ Q (.int n) H) (tCons ta tNil)) σ H (.int (ds.length : Int)) := fun H1 e Q q =>
  ha H1 e _ fun v H2 A g hd => by
    obtain ⟨a, xs, rfl, hs, hall⟩ := dp_tup hd
    exact ⟨_, ds.length, rfl, .inr ⟨xs, ex_t g.d2 hs, (dpAll_len hall).symm⟩, q H2 g.ex⟩
theorem ev_lenL {ds : List PyData} (ha : EvD K ta σ H (.list ds)) : Ev (tCB (fun xs H Q => ∃ x n, xs = [x] ∧ LenV K x H n ∧ Q (.int n) H) (tCons ta tNil)) σ H (.int (ds.length : Int)) := fun H1 e Q q =>
  ha H1 e _ fun v H2 A g hd => by
    obtain ⟨a, xs, rfl, hs, hall⟩ := dp_lst hd
    exact ⟨_, ds.length, rfl, .inl ⟨xs, sq_of (g.d2 _ _ hs), (dpAll_len hall).symm⟩, q H2 g.ex⟩
theorem ev_lenS {x : Str} (ha : EvD K ta σ H (.str x)) (hl : x.length ≤ sizeLine) : Ev (tCB (fun xs H Q => ∃ x n, xs = [x] ∧ LenV K x H n ∧ Q (.int n) H) (tCons ta tNil)) σ H (.int (x.length : Int)) := fun H1 e Q q =>
  ha H1 e _ fun v H2 A g hd => by
    rw [dp_str hd]
    exact ⟨_, x.length, rfl, ⟨hl, rfl⟩, q H2 g.ex⟩
/-- a slice -/
theorem eo_i {i : Int} (h : EvD K te σ H (.int i)) : EvO (tPart te) σ H (some i) := fun H1 e Q q => h H1 e _ fun v H2 A g hd => ⟨i, dp_int hd, q H2 g.ex⟩
def cutD (ds : List PyData) (lo hi : Option Int) : List PyData := (ds.drop (HT.sIx ds.length 0 lo)).take (HT.sIx ds.length ds.length hi - HT.sIx ds.length 0 lo)
theorem cutV_dp {vs : List V} {ds : List PyData} (h : DtAll K H vs ds) (lo hi : Option Int) : DtAll K H (cutV vs lo hi) (cutD ds lo hi) := by
  unfold cutV cutD
  rw [dpAll_len h]
  exact dpAll_take _ (dpAll_drop _ h)
theorem cut_whole {ds : List PyData} {lo hi : Option Int} (h : HT.sIx ds.length 0 lo = 0 ∧ HT.sIx ds.length ds.length hi = ds.length) : cutD ds lo hi = ds := by
  unfold cutD
  rw [h.1, h.2]
  simp
theorem evd_slT {ds : List PyData} {lo hi : TO} {l h : Option Int} (ha : EvD K ta σ H (.tuple ds)) (hl : EvO lo σ H l) (hh : EvO hi σ H h) : EvD K (tSl (rSlU K) ta lo hi) σ H (.tuple (cutD ds l h)) := fun H1 e Q q =>
  ha H1 e _ fun v H2 A g hd => hl H2 (e.trans g.ex) _ fun H3 e3 => hh H3 ((e.trans g.ex).trans e3) _ fun H4 e4 => by
    obtain ⟨a, xs, rfl, hs, hall⟩ := dp_tup hd
    have hl := dpAll_len hall
    have g4 : Gr H H1 H4 A := g.more (e3.trans e4)
    refine .inr (.inl ⟨a, xs, rfl, ex_t g4.d2 hs, fun hw => ?_, fun hw p hp => ?_⟩)
    · rw [hl] at hw
      refine q _ H4 A g4 ?_
      rw [cut_whole hw]
      exact .tup hs hall
    · exact q _ _ _ (g4.new _ hp) (.tup (st_of upd_same) (dpAll_ex (Ex.new (fresh_back g4.d2 hp)) _ _ (cutV_dp hall l h)))
theorem evd_slL {ds : List PyData} {lo hi : TO} {l h : Option Int} (ha : EvD K ta σ H (.list ds)) (hl : EvO lo σ H l) (hh : EvO hi σ H h) : EvD K (tSl (rSlU K) ta lo hi) σ H (.list (cutD ds l h)) := fun H1 e Q q =>
  ha H1 e _ fun v H2 A g hd => hl H2 (e.trans g.ex) _ fun H3 e3 => hh H3 ((e.trans g.ex).trans e3) _ fun H4 e4 => by
    obtain ⟨a, xs, rfl, hs, hall⟩ := dp_lst hd
    have g4 : Gr H H1 H4 A := g.more (e3.trans e4)
    exact .inl ⟨a, xs, rfl, sq_of (g4.d2 _ _ hs), fun p hp => q _ _ _ (g4.new _ hp) (.lst upd_same (dpAll_ex (Ex.new (fresh_back g4.d2 hp)) _ _ (cutV_dp hall l h)))⟩
/-- x in a sequence of flat things -/
def flatD : PyData → Bool
  | .none => true
  | .bool _ => true
  | .int _ => true
  | .str _ => true
  | _ => false
theorem flat_dp {v : V} (h : Dt K H v d) (f : flatD d = true) : flatV v = true := by
  cases h <;> first | rfl | cases f
theorem flats_dp : ∀ {vs : List V} {ds : List PyData}, DtAll K H vs ds → ds.all flatD = true → vs.all flatV = true
  | _, _, .nil, _ => rfl
  | _, _, .cons h t, f => by
    rw [List.all_cons, Bool.and_eq_true] at f ⊢
    exact ⟨flat_dp h f.1, flats_dp t f.2⟩
theorem eqV_dp {x y : V} {d e : PyData} (hx : Dt K H x d) (hy : Dt K H y e) (fd : flatD d = true) (fe : flatD e = true) : eqV x y = PyData.eqv d e := by
  cases hx <;> cases hy <;> first | (simp [flatD] at fd; done) | (simp [flatD] at fe; done) | rfl | (simp only [eqV, PyData.eqv]; done)
def inD (d : PyData) (ds : List PyData) : Bool := ds.any fun e => PyData.eqv e d
theorem inV_dp {x : V} {d : PyData} (hx : Dt K H x d) (fd : flatD d = true) : ∀ {vs : List V} {ds : List PyData}, DtAll K H vs ds → ds.all flatD = true → inV x vs = inD d ds
  | _, _, .nil, _ => rfl
  | _, _, .cons h t, f => by
    rw [List.all_cons, Bool.and_eq_true] at f
    show (eqV _ x || inV x _) = (PyData.eqv _ d || inD d _)
    rw [eqV_dp h hx f.1 fd, inV_dp hx fd t f.2]
theorem ev_inT {neg : Bool} {ds : List PyData} (ha : EvD K ta σ H d) (hb : EvD K tb σ H (.tuple ds)) (fd : flatD d = true) (fs : ds.all flatD = true) : Ev (tOp (rInU K neg) ta tb) σ H (.bl (if neg then !inD d ds else inD d ds)) := ev_opd ha hb fun x y H1 hx hy Q q => by
  obtain ⟨a, xs, rfl, hs, hall⟩ := dp_tup hy
  exact .inl ⟨a, xs, rfl, .inr hs, flat_dp hx fd, flats_dp hall fs, by rw [inV_dp hx fd hall fs]; exact q⟩
theorem ev_inL {neg : Bool} {ds : List PyData} (ha : EvD K ta σ H d) (hb : EvD K tb σ H (.list ds)) (fd : flatD d = true) (fs : ds.all flatD = true) : Ev (tOp (rInU K neg) ta tb) σ H (.bl (if neg then !inD d ds else inD d ds)) := ev_opd ha hb fun x y H1 hx hy Q q => by
  obtain ⟨a, xs, rfl, hs, hall⟩ := dp_lst hy
  exact .inl ⟨a, xs, rfl, .inl (sq_of hs), flat_dp hx fd, flats_dp hall fs, by rw [inV_dp hx fd hall fs]; exact q⟩
theorem ev_inS {neg : Bool} {c : Nat} {z : Str} (ha : EvD K ta σ H (.str ⟨#[c]⟩)) (hb : EvD K tb σ H (.str z)) : Ev (tOp (rInU K neg) ta tb) σ H (.bl (if neg then !decide (c ∈ z.cps.toList) else decide (c ∈ z.cps.toList))) := ev_opd ha hb fun x y H1 hx hy Q q => by
  cases hx
  cases hy
  exact .inr ⟨c, z, rfl, rfl, q⟩
/-- lists, tuples one behind the other -/
theorem evd_addT {ds es : List PyData} (ha : EvD K ta σ H (.tuple ds)) (hb : EvD K tb σ H (.tuple es)) (hl : ds.length + es.length ≤ 100000) : EvD K (tOp (rAddU K) ta tb) σ H (.tuple (ds ++ es)) := evd_op ha hb fun x y H1 A e hx hy Q q => by
  obtain ⟨a, xs, rfl, hs, h1⟩ := dp_tup hx
  obtain ⟨b, ys, rfl, ht, h2⟩ := dp_tup hy
  refine .inr (.inr (.inr ⟨a, b, xs, ys, rfl, rfl, ex_t e hs, ex_t e ht, by rw [dpAll_len h1, dpAll_len h2]; exact sz_of hl, fun z => ?_, fun _ z => ?_, fun _ _ p hp => ?_⟩))
  · subst z
    cases h1
    exact q _ H1 A (Gr.base e (Ex.refl H1)) (.tup ht h2)
  · subst z
    cases h2
    rw [List.append_nil] at q
    exact q _ H1 A (Gr.base e (Ex.refl H1)) (.tup hs h1)
  · exact q _ _ _ ((Gr.base e (Ex.refl H1)).new _ hp) (.tup (st_of upd_same) (dpAll_ex (Ex.new (fresh_back e hp)) _ _ (dpAll_app h1 h2)))
/-- two lists, both of their own (tracked) -/
theorem evd_addL {ds es : List PyData} (ha : EvD K ta σ H (.list ds)) (hb : EvD K tb σ H (.list es)) (hl : ds.length + es.length ≤ 100000) : EvD K (tOp (rAddU K) ta tb) σ H (.list (ds ++ es)) := evd_op ha hb fun x y H1 A e dx dy Q q => by
  obtain ⟨a, xs, rfl, hs, h1⟩ := dp_lst dx
  obtain ⟨b, ys, rfl, ht, h2⟩ := dp_lst dy
  refine .inr (.inr (.inl ⟨a, b, xs, ys, rfl, rfl, e _ _ hs, e _ _ ht, by rw [dpAll_len h1, dpAll_len h2]; exact sz_of hl, fun p hp => ?_⟩))
  exact q _ _ _ ((Gr.base e (Ex.refl H1)).new _ hp) (.lst upd_same (dpAll_ex (Ex.new (fresh_back e hp)) _ _ (dpAll_app h1 h2)))
end
end LC

namespace LC
open PySem L2 Evl
/-! ### a list that is being filled -/
/-- D, new behind H2, holds out; what it holds lies among A's data and what is new -/
def Acc (K : Frag) (A H2 : Hp) (D : Addr) (out : List PyData) (H' : Hp) : Prop := Ex H2 H' ∧ ∃ B acc, H' D = some (.lst acc) ∧ Ex A B ∧ Ex B H' ∧ B D = none ∧ (∀ a, A a = none → H2 a ≠ none → B a = none) ∧ DtAll K B acc out
section
variable {K : Frag} {A H H1 H2 H3 H4 H' H'' C Hd : Hp} {D : Addr} {out : List PyData} {d : PyData} {y : V}
theorem Acc.nil (e : Ex A H2) (hD : H2 D = none) : Acc K A H2 D [] (upd H2 D (.lst [])) :=
  ⟨Ex.new hD, A, [], upd_same, Ex.refl A, e.trans (Ex.new hD), fresh_back e hD, fun _ h _ => h, .nil⟩
theorem Acc.grow (h : Acc K A H2 D out H') (e : Ex H' H'') : Acc K A H2 D out H'' := by
  obtain ⟨x, B, acc, h1, h2, h3, h4, h5, h6⟩ := h
  exact ⟨x.trans e, B, acc, e _ _ h1, h2, h3.trans e, h4, h5, h6⟩
theorem Acc.at (h : Acc K A H2 D out H') : ∃ acc, H' D = some (.lst acc) ∧ acc.length = out.length := by
  obtain ⟨x, B, acc, h1, h2, h3, h4, h5, h6⟩ := h
  exact ⟨acc, h1, dpAll_len h6⟩
theorem Acc.base (h : Acc K A H2 D out H') : Ex A H' := by
  obtain ⟨x, B, acc, h1, h2, h3, h4, h5, h6⟩ := h
  exact h2.trans h3
theorem Acc.start (e : Ex A H2) (x : Ex H2 H') (hD : H2 D = none) (h : H' D = some (.lst [])) : Acc K A H2 D [] H' :=
  ⟨x, A, [], h, Ex.refl A, e.trans x, fresh_back e hD, fun _ h _ => h, .nil⟩
theorem Acc.rebase (h : Acc K A H2 D out H') (x : Ex A Hd) (y : Ex Hd H') (n : Hd D = none) : Acc K Hd H2 D out H' := by
  obtain ⟨x0, B, acc, h1, h2, h3, h4, h5, h6⟩ := h
  refine ⟨x0, join B Hd, acc, h1, join_r h3 y, join_to h3 y, by unfold join; rw [h4]; exact n, fun a ha hn => ?_, dpAll_ex join_l _ _ h6⟩
  have e1 := h5 a (fresh_back x ha) hn
  unfold join
  rw [e1]
  exact ha
theorem ex_upd {B H4 : Hp} {o : HO} (e : Ex B H4) (h : B D = none) : Ex B (upd H4 D o) := fun a u q => by
  rw [upd_ne (ne_of_none q h)]
  exact e a u q
/-- several at once -/
theorem Acc.push' {ys : List V} {ds : List PyData} (h : Acc K A H2 D out H3) (hA : A D = none) (hD : H2 D = none) (g : Gr A H3 H4 C) (hy : DtAll K C ys ds) :
    ∃ acc, H4 D = some (.lst acc) ∧ acc.length = out.length ∧ Acc K A H2 D (out ++ ds) (upd H4 D (.lst (acc ++ ys))) := by
  obtain ⟨x, B, acc, h1, h2, h3, h4, h5, h6⟩ := h
  have cD : C D = none := g.fr D hA (by rw [h1]; exact fun z => nomatch z)
  have bj : Ex B (join B C) := join_l
  have cj : Ex C (join B C) := join_r (h3.trans g.ex) g.d2
  have jD : join B C D = none := by unfold join; rw [h4]; exact cD
  refine ⟨acc, g.ex _ _ h1, dpAll_len h6, Ex.mut (x.trans g.ex) hD, join B C, acc ++ ys, upd_same, h2.trans bj, ex_upd (join_to (h3.trans g.ex) g.d2) jD, jD, fun a h0 hn => ?_, dpAll_app (dpAll_ex bj _ _ h6) (dpAll_ex cj _ _ hy)⟩
  have e1 := h5 a h0 hn
  have e2 := g.fr a h0 (ne_none x hn)
  unfold join
  rw [e1]
  exact e2
theorem Acc.push (h : Acc K A H2 D out H3) (hA : A D = none) (hD : H2 D = none) (g : Gr A H3 H4 C) (hy : Dt K C y d) :
    ∃ acc, H4 D = some (.lst acc) ∧ acc.length = out.length ∧ Acc K A H2 D (out ++ [d]) (upd H4 D (.lst (acc ++ [y]))) := h.push' hA hD g (.cons hy .nil)
theorem Acc.done (h : Acc K A H2 D out H') (xd : Ex H A) (fr : ∀ a, H a = none → H1 a ≠ none → A a = none) (ex : Ex H1 H2) (hD : H2 D = none) : ∃ Hd, Gr H H1 H' Hd ∧ Dt K Hd (.ref D) (.list out) := by
  obtain ⟨x, B, acc, h1, h2, h3, h4, h5, h6⟩ := h
  refine ⟨upd B D (.lst acc), ⟨ex.trans x, (xd.trans h2).trans (Ex.new h4), fun a u q => ?_, fun a h0 hn => ?_⟩, .lst upd_same (dpAll_ex (Ex.new h4) _ _ h6)⟩
  · by_cases e : a = D
    · subst e
      rw [upd_same] at q
      cases q
      exact h1
    · rw [upd_ne e] at q
      exact h3 a u q
  · have ne : a ≠ D := fun z => hn (by rw [z]; exact fresh_back ex hD)
    rw [upd_ne ne]
    exact h5 a (fr a h0 hn) (ne_none ex hn)
end
/-! ### comprehensions over data -/
section
variable {K : Frag} {σ : L2.St} {H : Hp} {te tl : TE} {tt : TT} {j : Nat} {vs : List Nat}
theorem lc_turn {A H2 H' : Hp} {D : Addr} {out : List PyData} {σ2 : L2.St} {b : Bool} {z : PyData} (e : Ex A H2) (hD : H2 D = none) (p : Acc K A H2 D out H') (hl : out.length < 50000) (ht : EvT tt σ2 A b) (he : b = true → EvD K te σ2 A z) :
    tt σ2 H' fun b' H3 => if b' = true then te σ2 H3 fun y H4 => ∃ acc, H4 D = some (.lst acc) ∧ acc.length < sizeLine ∧ Acc K A H2 D (if b then out ++ [z] else out) (upd H4 D (.lst (acc ++ [y]))) else Acc K A H2 D (if b then out ++ [z] else out) H3 := by
  refine ht H' (p.base) _ fun H3 e3 => ?_
  cases b with
  | true =>
    show te σ2 H3 _
    refine he rfl H3 ((p.base).trans e3) _ fun y H4 C g hy => ?_
    obtain ⟨acc, h1, h2, h3⟩ := (p.grow e3).push (fresh_back e hD) hD g hy
    exact ⟨acc, h1, sz_lt (by omega), h3⟩
  | false => exact p.grow e3
theorem take_snoc {ds : List PyData} {i : Nat} {d : PyData} (h : ds[i]? = some d) : ds.take (i + 1) = ds.take i ++ [d] := by
  rw [List.take_add_one, h] <;> rfl
theorem out_snoc {ds : List PyData} {i : Nat} {d : PyData} (f : PyData → Bool) (g : PyData → PyData) (h : ds[i]? = some d) :
    ((ds.take (i + 1)).filter f).map g = if f d then ((ds.take i).filter f).map g ++ [g d] else ((ds.take i).filter f).map g := by
  rw [take_snoc h, List.filter_append, List.map_append]
  cases q : f d with
  | true => simp [q]
  | false => simp [q]
theorem out_len {ds : List PyData} (f : PyData → Bool) (g : PyData → PyData) (i : Nat) : (((ds.take i).filter f).map g).length ≤ ds.length := by
  rw [List.length_map]
  refine Nat.le_trans (List.length_filter_le _ _) ?_
  rw [List.length_take]
  omega
theorem evd_lcT {ds : List PyData} (f : PyData → Bool) (g : PyData → PyData) (h : EvD K tl σ H (.tuple ds)) (hz : ds.length ≤ 40000) (hw : ∀ x, wipe ((wipe σ vs).set j (some x)) vs = wipe σ vs)
    (ht : ∀ x d H1, Ex H H1 → d ∈ ds → Dt K H1 x d → EvT tt ((wipe σ vs).set j (some x)) H1 (f d)) (he : ∀ x d H1, Ex H H1 → d ∈ ds → f d = true → Dt K H1 x d → EvD K te ((wipe σ vs).set j (some x)) H1 (g d)) :
    EvD K (tLc (iSeq K tl) (gName j) tt te vs) σ H (.list ((ds.filter f).map g)) := fun H1 e Q q => by
  refine .inr (.inl (h H1 e _ fun v H2 A gr hd => ?_))
  obtain ⟨a, xs, rfl, hs, hall⟩ := dp_tup hd
  refine ⟨a, rfl, ⟨xs, ex_t gr.d2 hs⟩, fun D hD => ?_⟩
  refine lc_tup (K := K) (a := a) (xs := xs) (fun i H' => Acc K A H2 D (((ds.take i).filter f).map g) H') (Acc.nil gr.d2 hD) (fun i H' _ p => ex_t (p.base) hs) (fun i x H' hi p => ?_) fun H' p => ?_
  · obtain ⟨d, hdi, hx⟩ := dpAll_of hall hi
    have hm : d ∈ ds := List.mem_of_getElem? hdi
    have hl := out_len (ds := ds) f g i
    refine ⟨hw x, ?_⟩
    rw [out_snoc f g hdi]
    exact lc_turn gr.d2 hD p (by omega) (ht x d A gr.xd hm hx) (fun hf => he x d A gr.xd hm hf hx)
  · have p2 : Acc K A H2 D (((ds.take xs.length).filter f).map g) H' := p
    rw [dpAll_len hall, List.take_length] at p2
    obtain ⟨Hd, g1, g2⟩ := p2.done gr.xd gr.fr gr.ex hD
    exact q _ H' Hd g1 g2
theorem evd_lcL {ds : List PyData} (f : PyData → Bool) (g : PyData → PyData) (h : EvD K tl σ H (.list ds)) (hz : ds.length ≤ 40000) (hw : ∀ x, wipe ((wipe σ vs).set j (some x)) vs = wipe σ vs)
    (ht : ∀ x d H1, Ex H H1 → d ∈ ds → Dt K H1 x d → EvT tt ((wipe σ vs).set j (some x)) H1 (f d)) (he : ∀ x d H1, Ex H H1 → d ∈ ds → f d = true → Dt K H1 x d → EvD K te ((wipe σ vs).set j (some x)) H1 (g d)) :
    EvD K (tLc (iSeq K tl) (gName j) tt te vs) σ H (.list ((ds.filter f).map g)) := fun H1 e Q q => by
  refine .inl (h H1 e _ fun v H2 A gr hd => ?_)
  obtain ⟨a, xs, rfl, hs, hall⟩ := dp_lst hd
  refine ⟨a, rfl, ⟨xs, sq_of (gr.d2 _ _ hs)⟩, fun D hD => ?_⟩
  refine lc_list (K := K) (a := a) (xs := xs) (fun i H' => Acc K A H2 D (((ds.take i).filter f).map g) H') (Acc.nil gr.d2 hD) (fun i H' _ p => sq_of (p.base _ _ hs)) (fun i x H' hi p => ?_) fun H' p => ?_
  · obtain ⟨d, hdi, hx⟩ := dpAll_of hall hi
    have hm : d ∈ ds := List.mem_of_getElem? hdi
    have hl := out_len (ds := ds) f g i
    refine ⟨hw x, ?_⟩
    rw [out_snoc f g hdi]
    exact lc_turn gr.d2 hD p (by omega) (ht x d A gr.xd hm hx) (fun hf => he x d A gr.xd hm hf hx)
  · have p2 : Acc K A H2 D (((ds.take xs.length).filter f).map g) H' := p
    rw [dpAll_len hall, List.take_length] at p2
    obtain ⟨Hd, g1, g2⟩ := p2.done gr.xd gr.fr gr.ex hD
    exact q _ H' Hd g1 g2
/-- over a range -/
theorem evd_lcR {ta : TA} {n : Nat} (g : Nat → PyData) (h : EvDs K ta σ H [.int (n : Int)]) (hz : n ≤ 40000) (hw : ∀ x, wipe ((wipe σ vs).set j (some x)) vs = wipe σ vs)
    (he : ∀ i H1, Ex H H1 → i < n → EvD K te ((wipe σ vs).set j (some (.int (i : Int)))) H1 (g i)) :
    EvD K (tLc (iRng1 ta) (gName j) tYes te vs) σ H (.list ((List.range n).map g)) := fun H1 e Q q => h H1 e _ fun ws H2 A gr hd => by
  obtain rfl : ws = [.int (n : Int)] := by
    cases hd with
    | cons h1 h2 => cases h2; rw [dp_int h1]
  refine ⟨n, rfl, by omega, by omega, fun D hD => ?_⟩
  refine lc_range (lo := 0) (n := (n : Int).toNat) (fun i H' => Acc K A H2 D ((List.range i).map g) H') (Acc.nil gr.d2 hD) (fun i H' hi p => ?_) fun H' p => ?_
  · have e0 : (0 : Int) + (i : Int) = (i : Int) := Int.zero_add _
    have hi2 : i < n := by omega
    have key := lc_turn (b := true) (tt := tYes) (te := te) (σ2 := (wipe σ vs).set j (some (.int (i : Int)))) gr.d2 hD p (by rw [List.length_map, List.length_range]; omega) (fun H1 _ _ q => q H1 (Ex.refl H1)) (fun _ => he i A gr.xd hi2)
    have e1 : (List.range (i + 1)).map g = (List.range i).map g ++ [g i] := by rw [List.range_succ, List.map_append] <;> rfl
    show gName j (.int ((0 : Int) + (i : Int))) (wipe σ vs) H' _
    rw [e0]
    refine ⟨hw _, ?_⟩
    rw [e1]
    exact key
  · have p2 : Acc K A H2 D ((List.range (n : Int).toNat).map g) H' := p
    rw [Int.toNat_natCast] at p2
    obtain ⟨Hd, g1, g2⟩ := p2.done gr.xd gr.fr gr.ex hD
    exact q _ H' Hd g1 g2
end
/-! ### a def by its name -/
/-- the module's x is a def that keeps sp -/
def Has (P : Program) (w : World) (K : Frag) (mg : Str → Option Value) (base : Heap) (CX : CXT) (k : Nat) (x : Str) (ps : List Str) (sp : Sp) : Prop :=
  ∃ f fd, FnOk P w K mg base CX k f fd ps sp ∧ Binds K fd ps [] ∧ PySem.W.keepIn K (.ref f) = true ∧ mg x = some (.ref f)
section
variable {X : Cx} {CX : CXT} {k j : Nat} {x : Str} {ps : List Str} {sp : Sp} {E : XK} {p pos : Pos} {e : Expr} {es : List Expr} {t : TA}
theorem pe_has (F : Has X.prog X.w X.K X.mg X.base CX k x ps sp) (hr : Room j X.A) (hk : k ≤ j) (hg : Gl X x) (hx : Passes CX X E) (ha : PA X (e :: es) t) (hdb : (x == ("__debug__" : Str)) = false := by decide)
    (he : starEach (e :: es) X.env = (false, eval e X.env) :: starEach es X.env := by rfl) (hpl : (backTo pos (starEach es X.env)).any (·.1) = false := by rfl) : PE X (.Call (.Name x p) (e :: es) [] pos) (tCall sp [] E t) := by
  obtain ⟨f, fd, G, b, kp, m⟩ := F
  exact pe_call G (hr.mono hk) hg m kp b .nil hx ha hdb he hpl
theorem pe_has0 (F : Has X.prog X.w X.K X.mg X.base CX k x ps sp) (hr : Room j X.A) (hk : k ≤ j) (hg : Gl X x) (hx : Passes CX X E) (hdb : (x == ("__debug__" : Str)) = false := by decide) : PE X (.Call (.Name x p) [] [] pos) (tCall sp [] E tNil) := by
  obtain ⟨f, fd, G, b, kp, m⟩ := F
  exact pe_call0 G (hr.mono hk) hg m kp b .nil hx hdb
end
end LC

namespace LC
open PySem L2 Evl
/-! ### the rules with the written part named (so that a block's reading does not speak of the block) -/
def freeN : List Str := ["len", "isinstance", "range", "tuple", "sorted", "set", "int", "str", "bool", "list", "min", "zip", "enumerate", "dict", "ValueError"]
structure Tx (mg : Str → Option Value) : Prop where
  free : ∀ {x : Str}, x ∈ freeN → mg x = none
abbrev rLenU (K : Frag) : List V → Hp → VK → Prop := fun xs H Q => ∃ x n, xs = [x] ∧ LenV K x H n ∧ Q (.int n) H
abbrev rTupU (K : Frag) : List V → Hp → VK → Prop := fun xs H Q => ∃ p ys, xs = [.ref p] ∧ ((SqL K H p ys ∧ ∀ l, H l = none → Q (.ref l) (upd H l (.tup ys))) ∨ (SqT K H p ys ∧ Q (.ref p) H))
abbrev rLstU (K : Frag) : List V → Hp → VK → Prop := fun xs H Q => ∃ p ys, xs = [.ref p] ∧ (SqL K H p ys ∨ SqT K H p ys) ∧ ∀ l, H l = none → Q (.ref l) (upd H l (.lst ys))
abbrev tTrU (K : Frag) (ta : TE) : TT := fun σ H Q => ta σ H fun x H' => ∃ k, TruV K x H' k ∧ Q k H'
section
variable {X : Cx} {K : Frag} {a : Expr} {ta : TE} {pos : Pos} {x : Str}
theorem kAdd (h : X.K = K) : OpR X (binaryOp .Add) (rAddU K) := h ▸ opAdd
theorem kMul (h : X.K = K) : OpR X (binaryOp .Mult) (rMulU K) := h ▸ opMul
theorem kIn (h : X.K = K) : OpR X (compareOp .In) (rInU K false) := h ▸ opIn
theorem kNotIn (h : X.K = K) : OpR X (compareOp .NotIn) (rInU K true) := h ▸ opNotIn
theorem kEq (h : X.K = K) (hu : X.A.units + 64 < cLine) : OpR X (compareOp .Eq) (rEqD K) := h ▸ op_eqD hu
theorem kNe (h : X.K = K) (hu : X.A.units + 64 < cLine) : OpR X (compareOp .NotEq) (rNeD K) := h ▸ op_neD hu
theorem kSl (h : X.K = K) : SlR X (rSlU K) := h ▸ slU
theorem kIx (h : X.K = K) : IxR X (rIx K) := h ▸ ix_seq
theorem kSeq {tg : Expr} (h : X.K = K) (he : PE X a ta) : PI X tg a (iSeq K ta) := h ▸ pi_seq he
theorem kLen (h : X.K = K) : CallR X (.builtin "len") (rLenU K) := h ▸ call_len
theorem kIsi (h : X.K = K) : CallR X (.builtin "isinstance") (rIsi K) := h ▸ call_isi
theorem kTup (h : X.K = K) : CallR X (.type "tuple") (rTupU K) := h ▸ call_tuple_of
theorem kLst (h : X.K = K) : CallR X (.type "list") (rLstU K) := h ▸ call_list_of
theorem kTruth (h : X.K = K) (ha : PE X a ta) (he : ∀ whole, isTrue a X.env whole = (do let v ← whole; standAt a.pos; holding [v] (truthy v)) := by intro _; rfl) : PT X a (tTrU K ta) := h ▸ pt_truth ha he
theorem kNot (h : X.K = K) (ha : PE X a ta) : PE X (.UnaryOp .Not a pos) (tNotT K ta) := h ▸ pe_notT ha
theorem pe_gint {i : Int} (h : ∃ t, X.mg x = some (.int i t)) (hg : Gl X x := by rfl) (hd : (x == ("__debug__" : Str)) = false := by decide) : PE X (.Name x pos) (tC (.int i)) := by
  obtain ⟨t, h⟩ := h
  exact pe_glob hg h ⟨t, rfl⟩ hd
theorem pe_gstr {z : Str} (h : ∃ t, X.mg x = some (.str z t)) (hg : Gl X x := by rfl) (hd : (x == ("__debug__" : Str)) = false := by decide) : PE X (.Name x pos) (tC (.str z)) := by
  obtain ⟨t, h⟩ := h
  exact pe_glob hg h ⟨t, rfl⟩ hd
theorem pe_gref {a : Addr} (h : X.mg x = some (.ref a)) (hg : Gl X x := by rfl) (hd : (x == ("__debug__" : Str)) = false := by decide) : PE X (.Name x pos) (tC (.ref a)) := pe_glob hg h rfl hd
end
end LC

namespace LC
open PySem L2 Evl
/-! ### more readings -/
/-- texts that are short (all of them are), deep down -/
def okD : PyData → Bool
  | .str s => decide (s.length ≤ 100000) && PyData.strOk s
  | .list ds => okAll ds
  | .tuple ds => okAll ds
  | .dict _ => false
  | _ => true
where okAll : List PyData → Bool
  | [] => true
  | d :: ds => okD d && okAll ds
theorem okAll_mem : ∀ {ds : List PyData} {d : PyData}, okD.okAll ds = true → d ∈ ds → okD d = true
  | [], _, _, h => by cases h
  | e :: ds, d, ho, h => by
    have h2 : (okD e && okD.okAll ds) = true := by
      unfold okD.okAll at ho
      exact ho
    rw [Bool.and_eq_true] at h2
    rcases List.mem_cons.mp h with rfl | h
    · exact h2.1
    · exact okAll_mem h2.2 h
theorem okAll_of : ∀ {ds : List PyData}, (∀ d ∈ ds, okD d = true) → okD.okAll ds = true
  | [], _ => by unfold okD.okAll; rfl
  | e :: ds, h => by
    unfold okD.okAll
    rw [Bool.and_eq_true]
    exact ⟨h e (List.mem_cons_self ..), okAll_of fun d hd => h d (List.mem_cons_of_mem _ hd)⟩
theorem ok_tup {ds : List PyData} (h : okD (.tuple ds) = true) {d : PyData} (hd : d ∈ ds) : okD d = true := okAll_mem (by unfold okD at h; exact h) hd
theorem ok_lst {ds : List PyData} (h : okD (.list ds) = true) {d : PyData} (hd : d ∈ ds) : okD d = true := okAll_mem (by unfold okD at h; exact h) hd
theorem ok_str {s : Str} (h : okD (.str s) = true) : s.length ≤ 100000 := by unfold okD at h; exact of_decide_eq_true (Bool.and_eq_true_iff.mp h).1
theorem shapedS {s : Str} (h : okD (.str s) = true) : SeqAt.shaped (.str s) = true := by
  unfold okD at h
  show (PyData.canLay0 (.str s) && decide (PyData.depth (.str s) ≤ 64)) = true
  unfold PyData.canLay0 PyData.depth
  rw [(Bool.and_eq_true_iff.mp h).2]
  rfl
theorem ok_sign {s : Str} (h : okD (.str s) = true) {c : Nat} (hc : c ∈ s.cps.toList) : okD (.str ⟨#[c]⟩) = true := by
  unfold okD at h ⊢
  have h2 := (Bool.and_eq_true_iff.mp h).2
  unfold PyData.strOk at h2 ⊢
  have h3 : c < 0x110000 := by
    rw [Array.all_eq_true'] at h2
    exact of_decide_eq_true (h2 c (Array.mem_def.mpr hc))
  rw [Bool.and_eq_true]
  exact ⟨rfl, by simp [h3]⟩
theorem ok_tup_of {ds : List PyData} (h : ∀ d ∈ ds, okD d = true) : okD (.tuple ds) = true := by unfold okD; exact okAll_of h
theorem ok_lst_of {ds : List PyData} (h : ∀ d ∈ ds, okD d = true) : okD (.list ds) = true := by unfold okD; exact okAll_of h
/-- truth -/
def truD : PyData → Bool
  | .none => false
  | .bool b => b
  | .int i => i != 0
  | .str s => (s.length : Int) != 0
  | .list ds => !ds.isEmpty
  | .tuple ds => !ds.isEmpty
  | .dict _ => false
section
variable {K : Frag} {σ : L2.St} {H H' : Hp} {ta tb tc te tx : TE} {t u : TT} {d e : PyData}
theorem empty_dp {vs : List V} {ds : List PyData} (h : DtAll K H vs ds) : (!ds.isEmpty) = !vs.isEmpty := by
  cases h <;> rfl
theorem tru_dp {v : V} (h : Dt K H v d) (ok : okD d = true) : TruV K v H (truD d) := by
  cases h with
  | non => rfl
  | bl b => rfl
  | int i => rfl
  | str x => exact ⟨sz_of (ok_str ok), rfl⟩
  | lst hs ha => exact .inl ⟨_, sq_of hs, empty_dp ha⟩
  | tup hs ha => exact .inr (.inl ⟨_, hs, empty_dp ha⟩)
theorem et_d (h : EvD K te σ H d) (ok : okD d = true) : EvT (tTrU K te) σ H (truD d) := fun H1 e Q q =>
  h H1 e _ fun v H2 Hd g hd => ⟨_, tru_dp (dp_ex g.d2 _ _ hd) ok, q H2 g.ex⟩
theorem et_b {b : Bool} (h : Ev te σ H (.bl b)) : EvT (tTrU K te) σ H b := fun H1 e Q q => h H1 e _ fun H2 e2 => ⟨b, rfl, q H2 e2⟩
theorem ev_notD (h : EvD K te σ H d) (ok : okD d = true) : Ev (tNotT K te) σ H (.bl (!truD d)) := fun H1 e Q q =>
  h H1 e _ fun v H2 Hd g hd => ⟨_, tru_dp (dp_ex g.d2 _ _ hd) ok, q H2 g.ex⟩
theorem ev_notB {b : Bool} (h : Ev te σ H (.bl b)) : Ev (tNotT K te) σ H (.bl (!b)) := fun H1 e Q q => h H1 e _ fun H2 e2 => ⟨b, rfl, q H2 e2⟩
/-- a < b < c of ints -/
theorem ev_chain {p q : Int → Int → Bool} {i j k : Int} (ha : EvD K ta σ H (.int i)) (hb : EvD K tb σ H (.int j)) (hc : EvD K tc σ H (.int k)) :
    Ev (tChain (rI0 fun i j => .bl (p i j)) (rI0 fun i j => .bl (q i j)) ta tb tc) σ H (.bl (p i j && q j k)) := fun H1 e Q hq =>
  ev_int ha H1 e _ fun H2 e2 => ev_int hb H2 (e.trans e2) _ fun H3 e3 => ⟨i, j, rfl, rfl, _, rfl, by
    cases hp : p i j with
    | true =>
      show tc σ H3 _
      refine ev_int hc H3 ((e.trans e2).trans e3) _ fun H4 e4 => ⟨j, k, rfl, rfl, ?_⟩
      have := hq H4 ((e2.trans e3).trans e4)
      rw [hp] at this
      exact this
    | false =>
      show Q (.bl false) H3
      have := hq H3 (e2.trans e3)
      rw [hp] at this
      exact this⟩
theorem et_chain {p q : Int → Int → Bool} {i j k : Int} (ha : EvD K ta σ H (.int i)) (hb : EvD K tb σ H (.int j)) (hc : EvD K tc σ H (.int k)) :
    EvT (tTest (tChain (rI0 fun i j => .bl (p i j)) (rI0 fun i j => .bl (q i j)) ta tb tc)) σ H (p i j && q j k) := et_test (ev_chain ha hb hc)
/-- int(flag), int(n) -/
theorem ev_intB {b : Bool} (h : Ev te σ H (.bl b)) : Ev (tCB (fun xs H Q => (∃ i, xs = [.int i] ∧ Q (.int i) H) ∨ ∃ k, xs = [.bl k] ∧ Q (.int (if k then 1 else 0)) H) (tCons te tNil)) σ H (.int (if b then 1 else 0)) := fun H1 e Q q =>
  h H1 e _ fun H2 e2 => .inr ⟨b, rfl, q H2 e2⟩
/-- tuple(list) -/
theorem evd_tupL {ds : List PyData} (h : EvD K te σ H (.list ds)) : EvD K (tCB (rTupU K) (tCons te tNil)) σ H (.tuple ds) := fun H1 e Q q =>
  h H1 e _ fun v H2 A g hd => by
    obtain ⟨a, xs, rfl, hs, hall⟩ := dp_lst hd
    exact ⟨a, xs, rfl, .inl ⟨sq_of (g.d2 _ _ hs), fun l hl => q _ _ _ (g.new _ hl) (.tup (st_of upd_same) (dpAll_ex (Ex.new (fresh_back g.d2 hl)) _ _ hall))⟩⟩
theorem evd_lstT {ds : List PyData} (h : EvD K te σ H (.tuple ds)) : EvD K (tCB (rLstU K) (tCons te tNil)) σ H (.list ds) := fun H1 e Q q =>
  h H1 e _ fun v H2 A g hd => by
    obtain ⟨a, xs, rfl, hs, hall⟩ := dp_tup hd
    exact ⟨a, xs, rfl, .inr (ex_t g.d2 hs), fun l hl => q _ _ _ (g.new _ hl) (.lst upd_same (dpAll_ex (Ex.new (fresh_back g.d2 hl)) _ _ hall))⟩
theorem evd_lstL {ds : List PyData} (h : EvD K te σ H (.list ds)) : EvD K (tCB (rLstU K) (tCons te tNil)) σ H (.list ds) := fun H1 e Q q =>
  h H1 e _ fun v H2 A g hd => by
    obtain ⟨a, xs, rfl, hs, hall⟩ := dp_lst hd
    exact ⟨a, xs, rfl, .inl (sq_of (g.d2 _ _ hs)), fun l hl => q _ _ _ (g.new _ hl) (.lst upd_same (dpAll_ex (Ex.new (fresh_back g.d2 hl)) _ _ hall))⟩
/-- a constant tuple of the module -/
theorem evd_ref {a : Addr} (h : Dt K H (.ref a) d) : EvD K (tC (.ref a)) σ H d := evd_of ev_c h
/-- a comprehension over a text's signs -/
theorem evd_lcS {tl : TE} {tt : TT} {j : Nat} {vs : List Nat} {x : Str} (f : Nat → Bool) (g : Nat → PyData) (h : EvD K tl σ H (.str x)) (hz : x.length ≤ 40000) (hw : ∀ x, wipe ((wipe σ vs).set j (some x)) vs = wipe σ vs)
    (ht : ∀ c H1, Ex H H1 → c ∈ x.cps.toList → EvT tt ((wipe σ vs).set j (some (.str ⟨#[c]⟩))) H1 (f c)) (he : ∀ c H1, Ex H H1 → c ∈ x.cps.toList → f c = true → EvD K te ((wipe σ vs).set j (some (.str ⟨#[c]⟩))) H1 (g c)) :
    EvD K (tLc (iSeq K tl) (gName j) tt te vs) σ H (.list ((x.cps.toList.filter f).map g)) := fun H1 e Q q => by
  refine .inr (.inr (h H1 e _ fun v H2 A gr hd => ⟨x, dp_str hd, fun D hD => ?_⟩))
  have hlen : x.cps.size = x.cps.toList.length := by simp
  have hz2 : x.cps.toList.length ≤ 40000 := by rw [← hlen]; exact hz
  refine ⟨fun i m H' => m = x.cps.size - i ∧ i ≤ x.cps.size ∧ Acc K A H2 D (((x.cps.toList.take i).filter f).map g) H', ⟨x.cps.size, by simp, Nat.zero_le _, Acc.nil gr.d2 hD⟩, ?_⟩
  rintro i m H' ⟨rfl, hi, p⟩
  by_cases hlt : i < x.cps.size
  · refine .inr ⟨hlt, fun H'' => Acc K A H2 D (((x.cps.toList.take (i + 1)).filter f).map g) H'', fun H'' p' => ⟨x.cps.size - (i + 1), by omega, rfl, hlt, p'⟩, ?_⟩
    rintro y H'' ⟨rfl, c, hc, rfl⟩
    have hc2 : x.cps.toList[i]? = some c := by rw [Array.getElem?_toList]; exact hc
    have hm : c ∈ x.cps.toList := List.mem_of_getElem? hc2
    have e1 : ((x.cps.toList.take (i + 1)).filter f).map g = if f c then ((x.cps.toList.take i).filter f).map g ++ [g c] else ((x.cps.toList.take i).filter f).map g := by
      rw [List.take_add_one, hc2, Option.toList, List.filter_append, List.map_append]
      cases q : f c with
      | true => simp [q]
      | false => simp [q]
    refine ⟨hw _, ?_⟩
    rw [e1]
    refine lc_turn gr.d2 hD p ?_ (ht c A gr.xd hm) (fun hf => he c A gr.xd hm hf)
    rw [List.length_map]
    have := List.length_filter_le f (x.cps.toList.take i)
    rw [List.length_take] at this
    omega
  · refine .inl ⟨by show x.cps.size ≤ i; omega, ?_⟩
    have ei : i = x.cps.toList.length := by omega
    subst ei
    rw [List.take_length] at p
    obtain ⟨Hd, g1, g2⟩ := p.done gr.xd gr.fr gr.ex hD
    exact q _ H' Hd g1 g2
end
end LC

namespace LC
open PySem L2 Evl
/-! ### sources: what the defs compute, over plain data -/
def smallS : Str := "abcdefghijklmnopqrstuvwxyz"
def wordsS : List Str := ["add", "less", "times", "over", "same"]
def barredS : List Str := ["add", "less", "times", "over", "same", "if", "set", "show"]
def isWithin (d : PyData) (lo hi : Int) : Bool := match d with
  | .int i => decide (lo ≤ i) && decide (i ≤ hi)
  | _ => false
def nameS (s : Str) : Bool := (decide (1 ≤ s.length) && decide (s.length ≤ 4)) && (!decide (s ∈ barredS) && s.cps.toList.all fun c => decide (c ∈ smallS.cps.toList))
def isName : PyData → Bool
  | .str s => nameS s
  | _ => false
def sumHead (w : Str) (n : Nat) : Bool := decide (w ∈ wordsS) && n == 3 || decide (w = "if") && n == 4
def isSum : Nat → PyData → Bool
  | _, .str s => nameS s
  | n + 1, .tuple (.str w :: r) => sumHead w (r.length + 1) && r.all (isSum n)
  | _, .tuple _ => false
  | _, d => isWithin d 0 9999
def isRow : PyData → Bool
  | .tuple [.str w, a] => decide (w = "show") && isSum 6 a
  | .tuple [.str w, x, a] => decide (w = "set") && (isName x && isSum 6 a)
  | _ => false
def isSource : PyData → Bool
  | .tuple rs => decide (rs.length ≤ 8) && rs.all isRow
  | _ => false
theorem inD_str {s : Str} : ∀ {l : List Str}, inD (.str s) (l.map PyData.str) = decide (s ∈ l)
  | [] => by simp [inD]
  | x :: l => by
    have ih := inD_str (s := s) (l := l)
    show (PyData.eqv (.str x) (.str s) || inD (.str s) (l.map PyData.str)) = decide (s ∈ x :: l)
    rw [ih]
    show ((x == s) || decide (s ∈ l)) = decide (s ∈ x :: l)
    by_cases h : s = x
    · subst h; simp
    · have h2 : (x == s) = false := by simpa using fun z => h z.symm
      rw [h2, Bool.false_or]
      by_cases q : s ∈ l
      · simp [q]
      · simp [q, h]
theorem flat_strs (l : List Str) : (l.map PyData.str).all flatD = true := by
  rw [List.all_map]
  simp [flatD, Function.comp_def]
/-- the shapes of data: what the tests on a sum look at -/
theorem isSum_nontup {n : Nat} {d : PyData} (h1 : isT d "str" = false) (h2 : isT d "tuple" = false) : isSum n d = isWithin d 0 9999 := by
  cases d with
  | str s => simp [isT, tyN] at h1
  | tuple ds => simp [isT, tyN] at h2
  | _ => cases n <;> simp [isSum]
theorem isT_str {d : PyData} (h : isT d "str" = true) : ∃ s, d = .str s := by
  cases d <;> simp [isT, tyN] at h
  exact ⟨_, rfl⟩
theorem isT_tup {d : PyData} (h : isT d "tuple" = true) : ∃ ds, d = .tuple ds := by
  cases d <;> simp [isT, tyN] at h
  exact ⟨_, rfl⟩
theorem within_eq (d : PyData) (lo hi : Int) : (isT d "int" && (!isT d "bool" && isWithin d lo hi)) = isWithin d lo hi := by
  cases d <;> simp [isT, tyN, isWithin]
def F_is_within (ds : List PyData) (d : PyData) : Prop := ∃ x lo hi, ds = [x, .int lo, .int hi] ∧ d = .bool (isWithin x lo hi)
def F_is_name (ds : List PyData) (d : PyData) : Prop := ∃ x, ds = [x] ∧ okD x = true ∧ d = .bool (isName x)
def F_is_sum (n : Nat) (ds : List PyData) (d : PyData) : Prop := ∃ x, ds = [x, .int (n : Int)] ∧ okD x = true ∧ d = .bool (isSum n x)
def F_is_row (ds : List PyData) (d : PyData) : Prop := ∃ x, ds = [x] ∧ okD x = true ∧ d = .bool (isRow x)
def F_is_source (ds : List PyData) (d : PyData) : Prop := ∃ x, ds = [x] ∧ okD x = true ∧ d = .bool (isSource x)
theorem dts1 {K : Frag} {H : Hp} {vs : List V} {a : PyData} (h : DtAll K H vs [a]) : ∃ x, vs = [x] ∧ Dt K H x a := by
  cases h with
  | cons h1 h2 => cases h2; exact ⟨_, rfl, h1⟩
theorem dts2 {K : Frag} {H : Hp} {vs : List V} {a b : PyData} (h : DtAll K H vs [a, b]) : ∃ x y, vs = [x, y] ∧ Dt K H x a ∧ Dt K H y b := by
  cases h with
  | cons h1 h2 =>
    obtain ⟨y, rfl, hy⟩ := dts1 h2
    exact ⟨_, _, rfl, h1, hy⟩
theorem dts3 {K : Frag} {H : Hp} {vs : List V} {a b c : PyData} (h : DtAll K H vs [a, b, c]) : ∃ x y z, vs = [x, y, z] ∧ Dt K H x a ∧ Dt K H y b ∧ Dt K H z c := by
  cases h with
  | cons h1 h2 =>
    obtain ⟨y, z, rfl, hy, hz⟩ := dts2 h2
    exact ⟨_, _, _, rfl, h1, hy, hz⟩
end LC
namespace LC
open PySem L2 Evl
theorem cut_tail (w : PyData) (r : List PyData) : cutD (w :: r) (some 1) none = r := by
  unfold cutD
  have e1 : HT.sIx (w :: r).length 0 (some 1) = 1 := by
    have := HT.sIx_nat (w :: r).length 0 1
    rw [show ((1 : Nat) : Int) = 1 from rfl] at this
    rw [this]
    simp
  rw [e1, HT.sIx_none]
  simp
end LC
namespace LC
open PySem L2 Evl
theorem atI_0 {α : Type} (w : α) (r : List α) : atI (w :: r) 0 = some w := by simp [atI, ixN]
theorem atI_1 {α : Type} (w z : α) (r : List α) : atI (w :: z :: r) 1 = some z := by
  have h : (1 : Int) < ((r.length + 1 + 1 : Nat) : Int) := by omega
  simp [atI, ixN]
  rw [if_pos (by omega)]
  rfl
theorem atI_2 {α : Type} (w z y : α) (r : List α) : atI (w :: z :: y :: r) 2 = some y := by
  simp [atI, ixN]
  rw [if_pos (by omega)]
  rfl
end LC

namespace LC
open PySem PySem.Spec PyProof.Rows L2 Evl
abbrev FnP (K : Frag) (x q : Str) (st : Stmt) (f : Addr) (fd : FuncData) : Prop := FunD K x q (defArgs st) (defBody st) (defScope st) [] [] f fd
section
variable {P : Program} {w : World} {K : Frag} {mg : Str → Option Value} {base : Heap} {x q : Str} {st : Stmt} {f : Addr} {fd : FuncData} {N ps : List Str} {k : Nat}
/-- a def over data -/
theorem has_d {FF : List PyData → PyData → Prop} (F : FnP K x q st f fd) (g : mg x = some (.ref f)) (b : Binds K fd ps []) (S : FnScope N ps (defScope st)) (hl : ∀ ds d, FF ds d → ds.length = ps.length)
    (hbody : ∀ (cdv : Value) (A : Around) (outer : List Env) (s : Shared) (H : Hp) (vs : List V) (Q : VK) (E : XK) (ds : List PyData) (d : PyData) (H0 : Hp), Room k (A.deeper (envOfC q (defScope st) s.heap.objs.size f cdv)) →
      Ex H0 H → DtAll K H0 vs ds → FF ds d → (∀ v H2 Hd, Gr H0 H H2 Hd → Dt K Hd v d → Q v H2) →
      ∃ t, PSs (cxOf CX0 P w K mg base N q (defScope st) f cdv A outer s H E).nox (defBody st) t ∧ t { nx := fun _ H' => Q .non H', rt := Q } (start N vs) H) : Has P w K mg base CX0 (k + 1) x ps (spD K FF) := by
  refine ⟨f, fd, F.ok S (fun vs H Q E h => ?_) (fun cdv A outer s H vs Q E hr h => ?_), b, F.kp, g⟩
  · obtain ⟨ds, d, H0, _, hd, hf, _⟩ := h
    rw [dpAll_len hd]
    exact hl ds d hf
  · obtain ⟨ds, d, H0, e, hd, hf, hq⟩ := h
    obtain ⟨t, ht, r⟩ := hbody cdv A outer s H vs Q E ds d H0 hr e hd hf hq
    exact ⟨t, PSs.nox ht, r⟩
end
end LC
namespace LC
open PySem PySem.Spec PyProof.Rows L2 Evl
section
variable {K : Frag} {H0 H H1 : Hp} {d : PyData} {Q : VK} {σ : L2.St} {t : TT} {tu tw : TS} {D : Ends} {te : TE}
/-- what is wanted of a def's answer -/
abbrev Rt (K : Frag) (H0 H : Hp) (d : PyData) (Q : VK) : Prop := ∀ v H2 Hd, Gr H0 H H2 Hd → Dt K Hd v d → Q v H2
theorem Rt.go (k : Rt K H0 H d Q) (e : Ex H H1) : Rt K H0 H1 d Q := fun v H2 Hd g => k v H2 Hd (g.after e)
theorem s_yes (h : EvT t σ H0 true) (x : Ex H0 H) (k : ∀ H1, Ex H H1 → tu D σ H1) : tIfS t tu tw D σ H := s_ifD h x (fun _ => k) fun z => nomatch z
theorem s_nay (h : EvT t σ H0 false) (x : Ex H0 H) (k : ∀ H1, Ex H H1 → tw D σ H1) : tIfS t tu tw D σ H := s_ifD h x (fun z => nomatch z) fun _ => k
theorem Rt.ret {d' : PyData} (k : Rt K H0 H d D.rt) (x : Ex H0 H) (h : EvD K te σ H0 d') (e : d' = d) : tRet te D σ H := s_retD (evd_is h e) x k
end
section
variable {P : Program} {w : World} {K : Frag} {mg : Str → Option Value} {base : Heap} {x q : Str} {st : Stmt} {f : Addr} {fd : FuncData} {N ps : List Str} {k : Nat} {CX : CXT}
/-- a def that is not called -/
theorem has_never (F : FnP K x q st f fd) (g : mg x = some (.ref f)) (b : Binds K fd ps []) (FF : List PyData → PyData → Prop) (hn : ∀ ds d, ¬ FF ds d) : Has P w K mg base CX k x ps (spD K FF) :=
  ⟨f, fd, ⟨fun vs H Q E h => by
    obtain ⟨ds, d, H0, _, _, hf, _⟩ := h
    exact (hn ds d hf).elim, fun A outer s H args us vs Q E _ _ _ _ h => by
    obtain ⟨ds, d, H0, _, _, hf, _⟩ := h
    exact (hn ds d hf).elim⟩, b, F.kp, g⟩
/-- what a def promises one level less deep -/
def Fprev (F : Nat → List PyData → PyData → Prop) : Nat → List PyData → PyData → Prop
  | 0 => fun _ _ => False
  | n + 1 => F n
end
end LC

namespace LC
open PySem L2 Evl
/-! ### sums, rows, sources as trees -/
inductive Sm where
  | num (i : Int)
  | nm (x : Str)
  | op (w : Str) (a b : Sm)
  | ite (a b c : Sm)
  deriving DecidableEq
inductive Rw where
  | set (x : Str) (s : Sm)
  | shw (s : Sm)
  deriving DecidableEq
abbrev Src := List Rw
def Sm.enc : Sm → PyData
  | .num i => .int i
  | .nm x => .str x
  | .op w a b => .tuple [.str w, a.enc, b.enc]
  | .ite a b c => .tuple [.str "if", a.enc, b.enc, c.enc]
def Rw.enc : Rw → PyData
  | .set x s => .tuple [.str "set", .str x, s.enc]
  | .shw s => .tuple [.str "show", s.enc]
def encS (src : Src) : PyData := .tuple (src.map Rw.enc)
def Sm.depth : Sm → Nat
  | .num _ => 0
  | .nm _ => 0
  | .op _ a b => max a.depth b.depth + 1
  | .ite a b c => max a.depth (max b.depth c.depth) + 1
def Sm.good : Sm → Bool
  | .num i => decide (0 ≤ i) && decide (i ≤ 9999)
  | .nm x => nameS x
  | .op w a b => decide (w ∈ wordsS) && (a.good && b.good)
  | .ite a b c => a.good && (b.good && c.good)
def Rw.sum : Rw → Sm
  | .set _ s => s
  | .shw s => s
def Rw.good : Rw → Bool
  | .set x s => nameS x && (s.good && decide (s.depth ≤ 6))
  | .shw s => s.good && decide (s.depth ≤ 6)
def goodS (src : Src) : Bool := decide (src.length ≤ 8) && src.all Rw.good
theorem noIf : ¬ (("if" : Str) ∈ wordsS) := by decide +kernel
theorem isSum_enc : ∀ (s : Sm) (n : Nat), s.good = true → s.depth ≤ n → isSum n s.enc = true
  | .num i, n, h, _ => by
    have h : (decide (0 ≤ i) && decide (i ≤ 9999)) = true := h
    cases n <;> exact h
  | .nm x, n, h, _ => by cases n <;> exact h
  | .op w a b, n, h, hd => by
    have h : (decide (w ∈ wordsS) && (a.good && b.good)) = true := h
    simp only [Bool.and_eq_true] at h
    have hd : max a.depth b.depth + 1 ≤ n := hd
    cases n with
    | zero => omega
    | succ n =>
      show (sumHead w 3 && [a.enc, b.enc].all (isSum n)) = true
      have e : sumHead w 3 = true := by
        unfold sumHead
        rw [h.1]
        rfl
      rw [e, Bool.true_and]
      simp only [List.all_cons, List.all_nil, Bool.and_true, Bool.and_eq_true]
      exact ⟨isSum_enc a n h.2.1 (by omega), isSum_enc b n h.2.2 (by omega)⟩
  | .ite a b c, n, h, hd => by
    have h : (a.good && (b.good && c.good)) = true := h
    simp only [Bool.and_eq_true] at h
    have hd : max a.depth (max b.depth c.depth) + 1 ≤ n := hd
    cases n with
    | zero => omega
    | succ n =>
      show (sumHead "if" 4 && [a.enc, b.enc, c.enc].all (isSum n)) = true
      have e : sumHead "if" 4 = true := by decide +kernel
      rw [e, Bool.true_and]
      simp only [List.all_cons, List.all_nil, Bool.and_true, Bool.and_eq_true]
      exact ⟨isSum_enc a n h.1 (by omega), isSum_enc b n h.2.1 (by omega), isSum_enc c n h.2.2 (by omega)⟩
theorem isRow_enc (r : Rw) (h : r.good = true) : isRow r.enc = true := by
  cases r with
  | set x s =>
    have h : (nameS x && (s.good && decide (s.depth ≤ 6))) = true := h
    simp only [Bool.and_eq_true, decide_eq_true_eq] at h
    show (decide (("set" : Str) = "set") && (isName (.str x) && isSum 6 s.enc)) = true
    rw [isSum_enc s 6 h.2.1 h.2.2]
    show (decide (("set" : Str) = "set") && (nameS x && true)) = true
    rw [h.1]
    decide
  | shw s =>
    have h : (s.good && decide (s.depth ≤ 6)) = true := h
    simp only [Bool.and_eq_true, decide_eq_true_eq] at h
    show (decide (("show" : Str) = "show") && isSum 6 s.enc) = true
    rw [isSum_enc s 6 h.1 h.2]
    decide
theorem isSource_enc (src : Src) (h : goodS src = true) : isSource (encS src) = true := by
  unfold goodS at h
  simp only [Bool.and_eq_true, decide_eq_true_eq, List.all_eq_true] at h
  show (decide ((src.map Rw.enc).length ≤ 8) && (src.map Rw.enc).all isRow) = true
  rw [List.length_map, List.all_map]
  simp only [Bool.and_eq_true, decide_eq_true_eq, List.all_eq_true]
  exact ⟨h.1, fun r hr => isRow_enc r (h.2 r hr)⟩
/-! names are short and plain -/
theorem sm_small {c : Nat} (h : c ∈ smallS.cps.toList) : c < 128 := by
  have q : smallS.cps.toList.all (fun c => decide (c < 128)) = true := by decide +kernel
  exact of_decide_eq_true (List.all_eq_true.mp q c h)
theorem ok_of_name {x : Str} (h : nameS x = true) : okD (.str x) = true := by
  unfold nameS at h
  simp only [Bool.and_eq_true, decide_eq_true_eq, List.all_eq_true] at h
  unfold okD PyData.strOk
  rw [Bool.and_eq_true, Array.all_eq_true']
  refine ⟨decide_eq_true (by omega), fun c hc => decide_eq_true ?_⟩
  have := sm_small (h.2.2 c (Array.mem_def.mp hc))
  omega
theorem ok_word {w : Str} (h : w ∈ wordsS) : okD (.str w) = true := by
  have q : wordsS.all (fun w => okD (.str w)) = true := by decide +kernel
  exact List.all_eq_true.mp q w h
theorem ok_if : okD (.str "if") = true := by decide +kernel
theorem ok_set : okD (.str "set") = true := by decide +kernel
theorem ok_show : okD (.str "show") = true := by decide +kernel
theorem ok_int (i : Int) : okD (.int i) = true := rfl
theorem ok_sum : ∀ (s : Sm), s.good = true → okD s.enc = true
  | .num i, _ => rfl
  | .nm x, h => ok_of_name h
  | .op w a b, h => by
    have h : (decide (w ∈ wordsS) && (a.good && b.good)) = true := h
    simp only [Bool.and_eq_true, decide_eq_true_eq] at h
    refine ok_tup_of fun d hd => ?_
    simp only [List.mem_cons, List.not_mem_nil, or_false] at hd
    rcases hd with rfl | rfl | rfl
    · exact ok_word h.1
    · exact ok_sum a h.2.1
    · exact ok_sum b h.2.2
  | .ite a b c, h => by
    have h : (a.good && (b.good && c.good)) = true := h
    simp only [Bool.and_eq_true] at h
    refine ok_tup_of fun d hd => ?_
    simp only [List.mem_cons, List.not_mem_nil, or_false] at hd
    rcases hd with rfl | rfl | rfl | rfl
    · exact ok_if
    · exact ok_sum a h.1
    · exact ok_sum b h.2.1
    · exact ok_sum c h.2.2
theorem Rw.good_sum {r : Rw} (h : r.good = true) : r.sum.good = true ∧ r.sum.depth ≤ 6 := by
  cases r with
  | set x s =>
    have h : (nameS x && (s.good && decide (s.depth ≤ 6))) = true := h
    simp only [Bool.and_eq_true, decide_eq_true_eq] at h
    exact h.2
  | shw s =>
    have h : (s.good && decide (s.depth ≤ 6)) = true := h
    simp only [Bool.and_eq_true, decide_eq_true_eq] at h
    exact h
theorem ok_row (r : Rw) (h : r.good = true) : okD r.enc = true := by
  cases r with
  | set x s =>
    have h : (nameS x && (s.good && decide (s.depth ≤ 6))) = true := h
    simp only [Bool.and_eq_true, decide_eq_true_eq] at h
    refine ok_tup_of fun d hd => ?_
    simp only [List.mem_cons, List.not_mem_nil, or_false] at hd
    rcases hd with rfl | rfl | rfl
    · exact ok_set
    · exact ok_of_name h.1
    · exact ok_sum s h.2.1
  | shw s =>
    have h : (s.good && decide (s.depth ≤ 6)) = true := h
    simp only [Bool.and_eq_true, decide_eq_true_eq] at h
    refine ok_tup_of fun d hd => ?_
    simp only [List.mem_cons, List.not_mem_nil, or_false] at hd
    rcases hd with rfl | rfl
    · exact ok_show
    · exact ok_sum s h.1
theorem goodS_row {src : Src} (h : goodS src = true) {r : Rw} (hr : r ∈ src) : r.good = true := by
  unfold goodS at h
  simp only [Bool.and_eq_true, List.all_eq_true] at h
  exact h.2 r hr
theorem goodS_len {src : Src} (h : goodS src = true) : src.length ≤ 8 := by
  unfold goodS at h
  simp only [Bool.and_eq_true, decide_eq_true_eq] at h
  exact h.1
theorem ok_src (src : Src) (h : goodS src = true) : okD (encS src) = true := by
  refine ok_tup_of fun d hd => ?_
  obtain ⟨r, hr, rfl⟩ := List.mem_map.mp hd
  exact ok_row r (goodS_row h hr)
/-! names in sums; what a source sets and reads -/
def Sm.names : Sm → List Str
  | .num _ => []
  | .nm x => [x]
  | .op _ a b => a.names ++ b.names
  | .ite a b c => a.names ++ (b.names ++ c.names)
def Rw.sets : Rw → List Str
  | .set x _ => [x]
  | .shw _ => []
def setsOf (src : Src) : List Str := src.flatMap Rw.sets
/-- found, mine -/
def readsGo (acc : List Str × List Str) (r : Rw) : List Str × List Str :=
  (r.sum.names.foldl (fun f x => if x ∈ acc.2 ∨ x ∈ f then f else f ++ [x]) acc.1, acc.2 ++ r.sets)
def readsOf (src : Src) : List Str := (src.foldl readsGo ([], [])).1
theorem names_len : ∀ (s : Sm), s.names.length ≤ 3 ^ s.depth
  | .num _ => by simp [Sm.names]
  | .nm _ => by simp [Sm.names, Sm.depth]
  | .op w a b => by
    have h1 := names_len a
    have h2 := names_len b
    show (a.names ++ b.names).length ≤ 3 ^ (max a.depth b.depth + 1)
    rw [List.length_append, Nat.pow_succ]
    have m1 : 3 ^ a.depth ≤ 3 ^ max a.depth b.depth := Nat.pow_le_pow_right (by omega) (by omega)
    have m2 : 3 ^ b.depth ≤ 3 ^ max a.depth b.depth := Nat.pow_le_pow_right (by omega) (by omega)
    omega
  | .ite a b c => by
    have h1 := names_len a
    have h2 := names_len b
    have h3 := names_len c
    show (a.names ++ (b.names ++ c.names)).length ≤ 3 ^ (max a.depth (max b.depth c.depth) + 1)
    rw [List.length_append, List.length_append, Nat.pow_succ]
    have m1 : 3 ^ a.depth ≤ 3 ^ max a.depth (max b.depth c.depth) := Nat.pow_le_pow_right (by omega) (by omega)
    have m2 : 3 ^ b.depth ≤ 3 ^ max a.depth (max b.depth c.depth) := Nat.pow_le_pow_right (by omega) (by omega)
    have m3 : 3 ^ c.depth ≤ 3 ^ max a.depth (max b.depth c.depth) := Nat.pow_le_pow_right (by omega) (by omega)
    omega
end LC

namespace LC
open PySem PySem.Spec PyProof.Rows L2 Evl
/-! ### statements over data: a list that grows, a for over a tuple -/
section
variable {K : Frag} {A H Hs H' : Hp} {p : Addr} {out ds : List PyData} {d : PyData} {σ : L2.St} {te tl : TE} {i : Nat} {D : Ends} {g : TG} {tu : TS}
theorem s_new {ta : TA} (h : EvDs K ta σ A []) (x : Ex A H) (k : ∀ p H1, H p = none → Acc K A H p [] H1 → D.nx (σ.set i (some (.ref p))) H1) : tAsg (tLst ta) (gName i) D σ H := h H x _ fun vs H2 Hd gr hd => by
  cases hd
  exact ⟨Nat.zero_le _, fun p hp => k p _ (fresh_back gr.ex hp) (Acc.start x (gr.ex.trans (Ex.new hp)) (fresh_back gr.ex hp) upd_same)⟩
theorem s_ext (hs : σ[i]? = some (some (.ref p))) (a : Acc K A Hs p out H) (hA : A p = none) (hD : Hs p = none) (h : EvD K te σ A (.list ds)) (hl : out.length + ds.length ≤ 100000)
    (k : ∀ H', Acc K A Hs p (out ++ ds) H' → (∀ Hd, Ex Hd H → Hd p = none → Ex Hd H') → D.nx σ H') : tDrop (tBM K "list" rExtend (tVar i) (tCons te tNil)) D σ H := by
  obtain ⟨acc, h1, h2⟩ := a.at
  refine ⟨.ref p, hs, .inl ⟨rfl, acc, sq_of h1⟩, h H a.base _ fun v H2 C gr hd => ?_⟩
  obtain ⟨b, zs, rfl, hb, hall⟩ := dp_lst hd
  obtain ⟨acc', e1, e2, e3⟩ := a.push' hA hD gr hall
  exact ⟨p, b, acc', zs, rfl, rfl, e1, gr.d2 _ _ hb, by rw [e2, dpAll_len hall]; exact sz_of hl, k _ e3 fun Hd x n => ex_upd (x.trans gr.ex) n⟩
theorem s_app (hs : σ[i]? = some (some (.ref p))) (a : Acc K A Hs p out H) (hA : A p = none) (hD : Hs p = none) (h : EvD K te σ A d) (hl : out.length < 100000)
    (k : ∀ H', Acc K A Hs p (out ++ [d]) H' → (∀ Hd, Ex Hd H → Hd p = none → Ex Hd H') → D.nx σ H') : tDrop (tBM K "list" rAppend (tVar i) (tCons te tNil)) D σ H := by
  obtain ⟨acc, h1, h2⟩ := a.at
  refine ⟨.ref p, hs, .inl ⟨rfl, acc, sq_of h1⟩, h H a.base _ fun v H2 C gr hd => ?_⟩
  obtain ⟨acc', e1, e2, e3⟩ := a.push hA hD gr hd
  exact ⟨p, acc', v, rfl, rfl, e1, sz_lt (by omega), k _ e3 fun Hd x n => ex_upd (x.trans gr.ex) n⟩
/-- the list that was filled, as data -/
theorem Acc.var (a : Acc K A Hs p out H) : ∃ Hd, Ex Hd H ∧ Dt K Hd (.ref p) (.list out) := by
  obtain ⟨x, B, acc, h1, h2, h3, h4, h5, h6⟩ := a
  refine ⟨upd B p (.lst acc), fun b u q => ?_, .lst upd_same (dpAll_ex (Ex.new h4) _ _ h6)⟩
  by_cases e : b = p
  · subst e
    rw [upd_same] at q
    cases q
    exact h1
  · rw [upd_ne e] at q
    exact h3 b u q
theorem Acc.here (a : Acc K A Hs p out H) : Dt K H (.ref p) (.list out) := by
  obtain ⟨Hd, x, h⟩ := a.var
  exact dp_ex x _ _ h
theorem s_forT (h : EvD K tl σ A (.tuple ds)) (x : Ex A H)
    (k : ∀ H1 Hd, Gr A H H1 Hd → ∃ Pv : Nat → L2.St → Hp → Prop, Pv 0 σ H1 ∧ (∀ i σ' H', Pv i σ' H' → Ex Hd H') ∧
      (∀ i v d σ' H', ds[i]? = some d → Dt K Hd v d → Pv i σ' H' → g v σ' H' fun σ2 H2 => tu { D with nx := Pv (i + 1), ct := Pv (i + 1), bk := D.nx } σ2 H2) ∧ ∀ σ' H', Pv ds.length σ' H' → D.nx σ' H') : tFor (iSeq K tl) g tu D σ H := by
  refine .inr (.inl (h H x _ fun v H1 Hd gr hd => ?_))
  obtain ⟨a, xs, rfl, hs, hall⟩ := dp_tup hd
  obtain ⟨Pv, p0, pb, ps, pe⟩ := k H1 Hd gr
  refine ⟨a, rfl, ⟨xs, ex_t gr.d2 hs⟩, for_tup (K := K) (a := a) (xs := xs) Pv p0 (fun i σ' H' _ q => ex_t (pb i σ' H' q) hs) (fun i y σ' H' hi q => ?_) fun σ' H' q => pe σ' H' (by rw [← dpAll_len hall]; exact q)⟩
  obtain ⟨d, hdi, hx⟩ := dpAll_of hall hi
  exact ps i y d σ' H' hdi hx q
theorem s_forL (h : EvD K tl σ A (.list ds)) (x : Ex A H)
    (k : ∀ H1 Hd, Gr A H H1 Hd → ∃ Pv : Nat → L2.St → Hp → Prop, Pv 0 σ H1 ∧ (∀ i σ' H', Pv i σ' H' → Ex Hd H') ∧
      (∀ i v d σ' H', ds[i]? = some d → Dt K Hd v d → Pv i σ' H' → g v σ' H' fun σ2 H2 => tu { D with nx := Pv (i + 1), ct := Pv (i + 1), bk := D.nx } σ2 H2) ∧ ∀ σ' H', Pv ds.length σ' H' → D.nx σ' H') : tFor (iSeq K tl) g tu D σ H := by
  refine .inl (h H x _ fun v H1 Hd gr hd => ?_)
  obtain ⟨a, xs, rfl, hs, hall⟩ := dp_lst hd
  obtain ⟨Pv, p0, pb, ps, pe⟩ := k H1 Hd gr
  refine ⟨a, rfl, ⟨xs, sq_of (gr.d2 _ _ hs)⟩, for_list (K := K) (a := a) (xs := xs) Pv p0 (fun i σ' H' _ q => sq_of (pb i σ' H' q _ _ hs)) (fun i y σ' H' hi q => ?_) fun σ' H' q => pe σ' H' (by rw [← dpAll_len hall]; exact q)⟩
  obtain ⟨d, hdi, hx⟩ := dpAll_of hall hi
  exact ps i y d σ' H' hdi hx q
end
def F_names_in (n : Nat) (ds : List PyData) (d : PyData) : Prop := ∃ s : Sm, ds = [s.enc] ∧ s.depth ≤ n ∧ s.depth ≤ 6 ∧ d = .list (s.names.map PyData.str)
def F_sets_of (ds : List PyData) (d : PyData) : Prop := ∃ src : Src, ds = [encS src] ∧ goodS src = true ∧ d = .list ((setsOf src).map PyData.str)
def F_reads_of (ds : List PyData) (d : PyData) : Prop := ∃ src : Src, ds = [encS src] ∧ goodS src = true ∧ d = .list ((readsOf src).map PyData.str)
def Sm.parts : Sm → List Sm
  | .op _ a b => [a, b]
  | .ite a b c => [a, b, c]
  | _ => []
theorem Sm.names_parts (s : Sm) (h : isT s.enc "str" = false) : s.names = s.parts.flatMap Sm.names := by
  cases s with
  | num i => rfl
  | nm x => simp [Sm.enc, isT, tyN] at h
  | op w a b => simp [Sm.names, Sm.parts]
  | ite a b c => simp [Sm.names, Sm.parts]
theorem Sm.enc_parts (s : Sm) (h : isT s.enc "tuple" = true) : ∃ w, s.enc = .tuple (.str w :: s.parts.map Sm.enc) := by
  cases s with
  | num i => simp [Sm.enc, isT, tyN] at h
  | nm x => simp [Sm.enc, isT, tyN] at h
  | op w a b => exact ⟨w, rfl⟩
  | ite a b c => exact ⟨"if", rfl⟩
theorem Sm.parts_depth {s q : Sm} (h : q ∈ s.parts) : q.depth < s.depth := by
  cases s with
  | num i => cases h
  | nm x => cases h
  | op w a b =>
    simp only [Sm.parts, List.mem_cons, List.not_mem_nil, or_false] at h
    show q.depth < max a.depth b.depth + 1
    rcases h with rfl | rfl <;> omega
  | ite a b c =>
    simp only [Sm.parts, List.mem_cons, List.not_mem_nil, or_false] at h
    show q.depth < max a.depth (max b.depth c.depth) + 1
    rcases h with rfl | rfl | rfl <;> omega
end LC
namespace LC
open PySem PySem.Spec PyProof.Rows L2 Evl
theorem Acc.ret {K : Frag} {A H0 H Hs H' : Hp} {p : Addr} {out : List PyData} {d : PyData} {Q : VK} (k : Rt K H0 H d Q) (a : Acc K A Hs p out H') (xd : Ex H0 A) (fr : ∀ a, H0 a = none → H a ≠ none → A a = none) (ex : Ex H Hs) (hD : Hs p = none) (e : PyData.list out = d) : Q (.ref p) H' := by
  obtain ⟨Hd, g1, g2⟩ := a.done xd fr ex hD
  rw [e] at g2
  exact k _ H' Hd g1 g2
theorem take_flat {α β : Type} (f : α → List β) {l : List α} {i : Nat} {a : α} (h : l[i]? = some a) : (l.take (i + 1)).flatMap f = (l.take i).flatMap f ++ f a := by
  rw [List.take_add_one, h, Option.toList, List.flatMap_append]
  simp
theorem flat_take_len {α β : Type} (f : α → List β) (l : List α) (i : Nat) : ((l.take i).flatMap f).length ≤ (l.flatMap f).length := by
  have e := List.take_append_drop i l
  have : (l.flatMap f).length = ((l.take i).flatMap f).length + ((l.drop i).flatMap f).length := by
    rw [← List.length_append, ← List.flatMap_append, e]
  omega
end LC

namespace LC
open PySem PySem.Spec PyProof.Rows L2 Evl
theorem dt_strs {K : Frag} {H : Hp} : ∀ (l : List Str), DtAll K H (l.map V.str) (l.map PyData.str)
  | [] => .nil
  | x :: l => .cons (.str x) (dt_strs l)
theorem dt_ints {K : Frag} {H : Hp} : ∀ (l : List Int), DtAll K H (l.map V.int) (l.map PyData.int)
  | [] => .nil
  | x :: l => .cons (.int x) (dt_ints l)
/-- a new list of flat things is handed back -/
theorem flat_ret {K : Frag} {H0 H H' : Hp} {p : Addr} {xs : List V} {d : PyData} {ds : List PyData} {Q : VK} (k : Rt K H0 H d Q) (x : Ex H0 H) (ex : Ex H H') (hp : H p = none) (h : H' p = some (.lst xs)) (fl : DtAll K H0 xs ds) (e : PyData.list ds = d) : Q (.ref p) H' := by
  have hp0 : H0 p = none := fresh_back x hp
  refine k _ H' (upd H0 p (.lst xs)) ⟨ex, Ex.new hp0, fun a u q => ?_, fun a h0 h1 => ?_⟩ (e ▸ .lst upd_same (dpAll_ex (Ex.new hp0) _ _ fl))
  · by_cases z : a = p
    · subst z
      rw [upd_same] at q
      cases q
      exact h
    · rw [upd_ne z] at q
      exact ex a u (x a u q)
  · rw [upd_ne fun z => h1 (by rw [z]; exact hp)]
    exact h0
/-! rows by their places -/
def isSetD : PyData → Bool
  | .tuple (.str w :: _) => w == "set"
  | _ => false
def secondD : PyData → PyData
  | .tuple (_ :: x :: _) => x
  | d => d
theorem sets_data (src : Src) : ((src.map Rw.enc).filter isSetD).map secondD = (setsOf src).map PyData.str := by
  induction src with
  | nil => rfl
  | cons r src ih =>
    cases r with
    | set x s =>
      show (((Rw.set x s).enc :: src.map Rw.enc).filter isSetD).map secondD = ((Rw.set x s).sets ++ setsOf src).map PyData.str
      rw [List.filter_cons, if_pos (by rfl)]
      show PyData.str x :: _ = PyData.str x :: _
      rw [ih]
      rfl
    | shw s =>
      show (((Rw.shw s).enc :: src.map Rw.enc).filter isSetD).map secondD = ((Rw.shw s).sets ++ setsOf src).map PyData.str
      rw [List.filter_cons, if_neg (by show ¬ (("show" : Str) == "set") = true; decide +kernel)]
      exact ih
section
variable {K : Frag} {σ : L2.St} {H : Hp} {te : TE} {r : Rw}
/-- row[0] == "set" -/
theorem ev_isSet (h : EvD K te σ H r.enc) : Ev (tOp (rEqD K) (tOp (rIx K) te (tC (.int 0))) (tC (.str "set"))) σ H (.bl (isSetD r.enc)) := by
  cases r with
  | set x s => exact ev_is (ev_eq (evd_ixT (d := .str "set") h evd_int (atI_0 _ _)) evd_str (by decide +kernel) (by decide +kernel)) rfl
  | shw s => exact ev_is (ev_eq (evd_ixT (d := .str "show") h evd_int (atI_0 _ _)) evd_str (by decide +kernel) (by decide +kernel)) rfl
/-- row[-1] -/
theorem evd_last (h : EvD K te σ H r.enc) : EvD K (tOp (rIx K) te (tUn (rU fun i => .int (-i)) (tC (.int 1)))) σ H r.sum.enc := by
  have m1 : EvD K (tUn (rU fun i => .int (-i)) (tC (.int 1))) σ H (.int (-1)) := evd_i (ev_un (x := .int 1) ev_c ru_neg)
  cases r with
  | set x s => exact evd_ixT h m1 (atI_last [.str "set", .str x] s.enc)
  | shw s => exact evd_ixT h m1 (atI_last [.str "show"] s.enc)
/-- row[1] of a row that sets -/
theorem evd_setName {x : Str} {s : Sm} (h : EvD K te σ H (Rw.set x s).enc) : EvD K (tOp (rIx K) te (tC (.int 1))) σ H (.str x) := evd_ixT h evd_int (atI_1 _ _ _)
end
theorem isSetD_set (x : Str) (s : Sm) : isSetD (Rw.set x s).enc = true := rfl
theorem isSetD_shw (s : Sm) : isSetD (Rw.shw s).enc = false := by
  show (("show" : Str) == "set") = false
  decide +kernel
def addName (ms : List Str) (f : List Str) (x : Str) : List Str := if x ∈ ms ∨ x ∈ f then f else f ++ [x]
theorem addName_len (ms f : List Str) (x : Str) : (addName ms f x).length ≤ f.length + 1 := by
  unfold addName
  split <;> simp
theorem foldl_addName_len (ms : List Str) : ∀ (l f : List Str), (l.foldl (addName ms) f).length ≤ f.length + l.length
  | [], f => by simp
  | x :: l, f => by
    have := foldl_addName_len ms l (addName ms f x)
    have := addName_len ms f x
    simp only [List.foldl_cons, List.length_cons]
    omega
theorem readsGo_eq (acc : List Str × List Str) (r : Rw) : readsGo acc r = (r.sum.names.foldl (addName acc.2) acc.1, acc.2 ++ r.sets) := rfl
theorem reads_len (src : Src) (h : ∀ r ∈ src, r.good = true) : ∀ acc : List Str × List Str, (src.foldl readsGo acc).1.length ≤ acc.1.length + 729 * src.length := by
  induction src with
  | nil => intro acc; simp
  | cons r src ih =>
    intro acc
    have h1 := ih (fun q hq => h q (List.mem_cons_of_mem _ hq)) (readsGo acc r)
    have h2 := foldl_addName_len acc.2 r.sum.names acc.1
    have g := Rw.good_sum (h r (List.mem_cons_self ..))
    have h3 : r.sum.names.length ≤ 729 := Nat.le_trans (names_len _) (Nat.le_trans (Nat.pow_le_pow_right (by omega) g.2) (by decide))
    rw [List.foldl_cons, List.length_cons]
    rw [readsGo_eq] at h1 ⊢
    simp only at h1
    omega
theorem take_foldl {α β : Type} (f : β → α → β) {l : List α} {i : Nat} {a : α} (h : l[i]? = some a) (b : β) : (l.take (i + 1)).foldl f b = f ((l.take i).foldl f b) a := by
  rw [List.take_add_one, h, Option.toList, List.foldl_append] <;> rfl
theorem inD_strs (x : Str) (l : List Str) : inD (.str x) (l.map PyData.str) = decide (x ∈ l) := inD_str
theorem mine_len (src : Src) : ∀ acc : List Str × List Str, (src.foldl readsGo acc).2.length ≤ acc.2.length + src.length := by
  induction src with
  | nil => intro acc; simp
  | cons r src ih =>
    intro acc
    have h1 := ih (readsGo acc r)
    rw [List.foldl_cons, List.length_cons]
    rw [readsGo_eq] at h1 ⊢
    simp only [List.length_append] at h1
    have : r.sets.length ≤ 1 := by cases r <;> simp [Rw.sets]
    omega
end LC

namespace LC
open PySem PySem.Spec PyProof.Rows L2
/-! ### sets of ints and texts, walked: over HandS.Set's own, with both kinds of keys -/
def kOf (e : Int × Value) : Key := match e.2 with
  | .int k _ => .inl k
  | .str x _ => .inr x
  | _ => .inl 0
def GoodQ (w : World) (e : Int × Value) : Prop := (∃ k tk, e.2 = Value.int k tk ∧ e.1 = hashInt k) ∨ ∃ x tk, e.2 = Value.str x tk ∧ e.1 = hashStr w x
/-- the keys L stand in the set at a; it can be walked -/
def SetQ (w : World) (h : Heap) (a : Addr) (L : List Key) : Prop := ∃ o es ep t, h.get? a = some o ∧ o.ExactSet ∧ o.data = .set es ep t ∧ (∀ e ∈ es.toList, GoodQ w e) ∧ (es.toList.map kOf).Perm L ∧ L.Nodup ∧
  es.size < scanBound ∧ t.fits es.size = true ∧ Ris t.place.toList ∧ (w.params.followText "set-order" = true ∨ t.led = true)
open Classical in
noncomputable def addK (L : List Key) (k : Key) : List Key := if k ∈ L then L else k :: L
section
variable {P : Program} {w : World} {A : Around} {E : Value → Shared → Prop} {s : Shared} {a : Addr} {L : List Key} {k : Key} {u : Value}
theorem goodQ_elems {l : List (Int × Value)} (gq : ∀ e ∈ l, GoodQ w e) : ElemsOf (mixKind P w) l := fun e he => by
  rcases gq e he with ⟨k, tk, h1, h2⟩ | ⟨x, tk, h1, h2⟩
  · exact ⟨⟨.inl k, by rw [h1]; exact keyIs_int k tk, h2⟩, by rw [h1] <;> rfl⟩
  · exact ⟨⟨.inr x, by rw [h1]; exact keyIs_str x tk, h2⟩, by rw [h1] <;> rfl⟩
theorem goodQ_is {e : Int × Value} (gq : GoodQ w e) (k : Key) : (mixKind P w).is k e.2 = true ↔ kOf e = k := by
  unfold kOf
  rcases gq with ⟨j, tk, h1, _⟩ | ⟨x, tk, h1, _⟩
  · rw [h1]
    cases k with
    | inl i =>
      show ((j == i) = true) ↔ (Sum.inl j : Key) = Sum.inl i
      simp
    | inr y =>
      show (Value.isStrOf y (Value.int j tk) = true) ↔ (Sum.inl j : Key) = Sum.inr y
      simp [Value.isStrOf]
  · rw [h1]
    cases k with
    | inl i =>
      show (Value.isInt i (Value.str x tk) = true) ↔ (Sum.inr x : Key) = Sum.inl i
      simp [Value.isInt]
    | inr y =>
      show (Value.isStrOf y (Value.str x tk) = true) ↔ (Sum.inr x : Key) = Sum.inr y
      simp [Value.isStrOf]
theorem goodQ_mem {l : List (Int × Value)} (gq : ∀ e ∈ l, GoodQ w e) (k : Key) : k ∈ l.map kOf ↔ ∃ e ∈ l, (mixKind P w).is k e.2 = true := by
  rw [List.mem_map]
  exact ⟨fun ⟨e, he, q⟩ => ⟨e, he, (goodQ_is (gq e he) k).2 q⟩, fun ⟨e, he, q⟩ => ⟨e, he, (goodQ_is (gq e he) k).1 q⟩⟩
theorem setQ_tail {g : Bool → Sem Unit} (hg : ∀ (b : Bool) (s₁ : Shared) (Q' : Unit → Shared → Prop), Q' () s₁ → wpAny (model P w) A (g b) Q' E s₁)
    {o : Obj} {es : Array (Int × Value)} {ep : Nat} {t : SetTable} (ob : s.heap.get? a = some o) (oe : o.ExactSet) (od : o.data = .set es ep t)
    {xs : Array (Int × Value)} {t2 : SetTable} (gq : ∀ e ∈ xs.toList, GoodQ w e) (pm0 : (xs.toList.map kOf).Perm L) (nd : L.Nodup)
    (few : xs.size < scanBound) (fit : t2.fits xs.size = true) (ri : Ris t2.place.toList) (le : w.params.followText "set-order" = true ∨ t2.led = true) {wasDummy : Bool} {R : Option Bool → Shared → Prop}
    (hR : ∀ h', Heap.SameBut a s.heap h' → SetQ w h' a L → R (some true) { s with heap := h' }) :
    wpAny (model P w) A (do
        storeSet a xs t2
        if (!wasDummy && t2.tooFull) = true then do
            g (relayAll t2 xs (SetTable.grown xs.size)).2.2
            storeSet a (relayAll t2 xs (SetTable.grown xs.size)).1 (relayAll t2 xs (SetTable.grown xs.size)).2.1
            pure (some true)
          else pure (some true)) R E s := by
  refine wpAny_bind (wpAny_storeSet_of ob od ?_ (fits_of_scanBound few))
  have ob1 := store_at (es' := xs) (t' := t2) ob od
  have sm1 := Heap.SameBut.update s.heap a (Obj.putSet xs t2)
  split
  · have pm := relayAll_perm t2 xs (SetTable.grown xs.size)
    have f3 := relayAll_fits t2 xs (SetTable.grown xs.size)
    have r3 := relayAll_ris t2 xs (SetTable.grown xs.size)
    have l3 := relayAll_led t2 xs (SetTable.grown xs.size)
    generalize relayAll t2 xs (SetTable.grown xs.size) = Z at pm f3 r3 l3 ⊢
    obtain ⟨ys, t3, gave⟩ := Z
    dsimp only at pm f3 r3 l3 ⊢
    have sz : ys.size = xs.size := by rw [← Array.length_toList, pm.length_eq, Array.length_toList]
    have few2 : ys.size < scanBound := by rw [sz]; exact few
    refine wpAny_bind (hg _ _ _ (wpAny_bind (wpAny_storeSet_of ob1 rfl ?_ (fits_of_scanBound few2))))
    have ob2 := store_at (es' := ys) (t' := t3) ob1 rfl
    exact wpAny_pure (hR _ (sm1.trans (Heap.SameBut.update _ a _)) ⟨_, ys, _, t3, ob2, oe, rfl, fun e he => gq e (pm.mem_iff.mp he), (pm.map kOf).trans pm0, nd, few2, f3, r3, le.imp id fun z => by rw [l3]; exact z⟩)
  · exact wpAny_pure (hR _ sm1 ⟨_, xs, _, t2, ob1, oe, rfl, gq, pm0, nd, few, fit, ri, le⟩)
theorem kV_good {w : World} (r : RelV (kV k) u) : GoodQ w ((mixKind P w).hash k, u) ∧ kOf ((mixKind P w).hash k, u) = k ∧ u.scannable = true := by
  cases k with
  | inl i =>
    obtain ⟨t, rfl⟩ := r
    exact ⟨.inl ⟨i, t, rfl, rfl⟩, rfl, rfl⟩
  | inr x =>
    obtain ⟨t, rfl⟩ := r
    exact ⟨.inr ⟨x, t, rfl, rfl⟩, rfl, rfl⟩
theorem setQ_hashed {Q : Bool → Shared → Prop} (R : SetQ w s.heap a L) (rk : RelV (kV k) u) (room : L.length + 1 < scanBound) (hQ : ∀ h' b, Heap.SameBut a s.heap h' → SetQ w h' a (addK L k) → Q b { s with heap := h' }) :
    wpAny (model P w) A (setAddHashed a u ((mixKind P w).hash k)) Q E s := by
  obtain ⟨o, es, ep, t, ob, oe, od, gq, pm0, nd, few, fit, ri, le⟩ := R
  obtain ⟨gu, eu, su⟩ := kV_good (P := P) (w := w) rk
  have hkey : (mixKind P w).is k u = true := kV_is rk
  have els : ElemsOf (mixKind P w) es.toList := goodQ_elems gq
  unfold setAddHashed setAddHashedIn
  refine wpAny_holding (wpAny_bind (wpAny_setState_of ob od fit ?_))
  dsimp only
  rw [byScan_of su few els]
  simp only [↓reduceIte]
  unfold setAddByScan
  refine wpAny_bind (wpAny_bind (wpAny_rule (wpAny_bind (wpAny_setScan_of hkey ob od fit els ?_))))
  cases fi : List.findIdx? (fun e => (mixKind P w).is k e.2) es.toList with
  | some j =>
    dsimp only
    obtain ⟨hj, pj, _⟩ := List.findIdx?_eq_some_iff_getElem.mp fi
    have inL : k ∈ L := pm0.mem_iff.mp ((goodQ_mem (P := P) gq k).2 ⟨es.toList[j], List.getElem_mem hj, pj⟩)
    refine wpAny_pure (wpAny_pure ?_)
    have q := hQ s.heap false (Heap.SameBut.refl a s.heap) (by
      unfold addK
      rw [if_pos inL]
      exact ⟨o, es, ep, t, ob, oe, od, gq, pm0, nd, few, fit, ri, le⟩)
    exact q
  | none =>
    dsimp only
    have nin : k ∉ es.toList.map kOf := fun z => by
      obtain ⟨e, he, q⟩ := (goodQ_mem (P := P) gq k).1 z
      have c := List.findIdx?_eq_none_iff.mp fi e he
      rw [q] at c
      cases c
    have ninL : k ∉ L := fun z => nin (pm0.mem_iff.mpr z)
    have gw : ∀ (b : Bool) {s₁ : Shared} {Q' : Unit → Shared → Prop}, Q' () s₁ → wpAny (model P w) A (match b with | true => rule "set.scan.the-table-gave-way" | false => pure ()) Q' E s₁ := fun b s₁ Q' q => by
      cases b
      · exact wpAny_pure q
      · exact wpAny_rule q
    have pm := layNew_perm t es ((mixKind P w).hash k) u
    have f1 := layNew_fits t es ((mixKind P w).hash k) u
    have r1 := layNew_ris t es ((mixKind P w).hash k) u ri
    have l1 := layNew_led t es ((mixKind P w).hash k) u
    generalize layNew t es ((mixKind P w).hash k) u = Z at pm f1 r1 l1 ⊢
    obtain ⟨xs, t1, wasDummy, gave⟩ := Z
    dsimp only at pm f1 r1 l1 ⊢
    rw [Array.toList_push] at pm
    have pc : xs.toList.Perm (((mixKind P w).hash k, u) :: es.toList) := pm.trans (List.perm_append_singleton _ _)
    have pk : (xs.toList.map kOf).Perm (addK L k) := by
      unfold addK
      rw [if_neg ninL]
      have z := pc.map kOf
      rw [List.map_cons, eu] at z
      exact z.trans (pm0.cons k)
    have ndk : (addK L k).Nodup := by
      unfold addK
      rw [if_neg ninL]
      exact List.nodup_cons.mpr ⟨ninL, nd⟩
    have g1 : ∀ e ∈ xs.toList, GoodQ w e := fun e he => by
      rcases List.mem_cons.mp (pc.mem_iff.mp he) with z | z
      · rw [z]; exact gu
      · exact gq e z
    have few1 : xs.size < scanBound := by
      have z := pk.length_eq
      unfold addK at z
      rw [if_neg ninL, List.length_map, Array.length_toList, List.length_cons] at z
      omega
    have led1 : w.params.followText "set-order" = true ∨ t1.led = true := le.imp id fun z => by rw [l1]; exact z
    refine wpAny_bind (gw _ ?_)
    split
    · refine wpAny_bind ?_
      rw [hashByValue_scannable 8 su]
      refine wpAny_pure ?_
      refine setQ_tail (L := addK L k) ?_ ob oe od g1 pk ndk few1 ?_ ?_ ?_ ?_
      · intro b s₁ Q' q
        cases b
        · exact wpAny_pure q
        · exact wpAny_rule q
      · first | (split <;> first | exact f1 | exact SetTable.fits_plain_off f1) | exact f1
      · first | (split <;> exact r1) | exact r1
      · first | (split <;> exact led1) | exact led1
      · intro h' sb r
        dsimp only
        exact wpAny_pure (hQ h' _ sb r)
    · refine wpAny_bind (wpAny_pure ?_)
      simp only [↓reduceIte]
      refine setQ_tail (L := addK L k) ?_ ob oe od g1 pk ndk few1 f1 r1 led1 ?_
      · intro b s₁ Q' q
        cases b
        · exact wpAny_pure q
        · exact wpAny_rule q
      · intro h' sb r
        dsimp only
        exact wpAny_pure (hQ h' _ sb r)
end
end LC

namespace LC
open PySem PySem.Spec PyProof.Rows L2
abbrev newSet (w : World) : Obj := { cls := .type "set", dict := none, data := .set #[] 0 (.fresh 0 0 (!w.params.followText "set-order")) }
section
variable {P : Program} {w : World} {A : Around} {E : Value → Shared → Prop} {s : Shared}
theorem SetQ.keep {h h' : Heap} {a : Addr} {L : List Key} (R : SetQ w h a L) (k : ∀ o, h.get? a = some o → h'.get? a = some o) : SetQ w h' a L := by
  obtain ⟨o, es, ep, t, ob, r⟩ := R
  exact ⟨o, es, ep, t, k o ob, r⟩
theorem setQ_fresh {h : Heap} {a : Addr} (ob : h.get? a = some (newSet w)) : SetQ w h a [] := by
  refine ⟨_, #[], 0, _, ob, ⟨rfl, rfl, rfl⟩, rfl, fun e he => (by simp at he), List.Perm.nil, List.nodup_nil, by decide, by rfl, List.Pairwise.nil, ?_⟩
  show _ ∨ (!w.params.followText "set-order") = true
  cases w.params.followText "set-order"
  · exact .inr rfl
  · exact .inl rfl
theorem addK_len (L : List Key) (k : Key) : (addK L k).length ≤ L.length + 1 := by
  unfold addK
  split
  · omega
  · simp
theorem foldl_addK_len : ∀ (ks L : List Key), (ks.foldl addK L).length ≤ L.length + ks.length
  | [], L => by simp
  | k :: ks, L => by
    have h1 := foldl_addK_len ks (addK L k)
    have h2 := addK_len L k
    simp only [List.foldl_cons, List.length_cons]
    omega
/-- the loop of set.update over keys -/
theorem setQ_loop {I : Addr} {fp wr : List Addr} {G : Array GenState → Array GenState → Prop} {n : Nat} {Pv : Nat → Value → Prop} {St : Nat → Shared → Prop} {R : Result → Shared → Prop}
    (W : WalksS P w A.in1 I fp wr G n Pv St) (S : Addr) (nf : S ∉ fp) (ks : List Key) (en : n = ks.length) (few : ks.length + 1 < scanBound) (val : ∀ i v, Pv i v → ∃ k, ks[i]? = some k ∧ RelV (kV k) v) :
    ∀ (c i : Nat) (s : Shared), n - i = c → i ≤ n → St i s → SetQ w s.heap S ((ks.take i).foldl addK []) → (∀ s', Moved (S :: wr) G s s' → SetQ w s'.heap S (ks.foldl addK []) → R (.ok (.ret .none)) s') →
      codeAny (model P w) A (.builtin "set.update.loop" ⟨[.ref S, .ref I], []⟩) R s := by
  have nw : S ∉ wr := fun z => nf (W.sub _ z)
  have up : ∀ b ∈ wr, b ∈ S :: wr := fun b hb => List.mem_cons_of_mem _ hb
  intro c
  induction c with
  | zero =>
    intro i s hc hi st hS hR
    obtain rfl : i = n := by omega
    refine codeAny_builtin F.entry_set_update_loop ?_
    rw [Around.under_plainId F.plain_set_update_loop _]
    show wpAny _ A.in1 (pyNext (.ref I) >>= _) _ _ s
    refine wpAny_bind (W.done s _ _ st fun s' mv => ?_)
    show wpAny _ A.in1 (ret Value.none) _ _ s'
    refine wpAny_pure (hR s' (mv.mono up) (SetQ.keep ?_ fun o e => mv.heap S o nw e))
    rw [en, List.take_length] at hS
    exact hS
  | succ c ih =>
    intro i s hc hi st hS hR
    have lt : i < n := by omega
    refine codeAny_builtin F.entry_set_update_loop ?_
    rw [Around.under_plainId F.plain_set_update_loop _]
    show wpAny _ A.in1 (pyNext (.ref I) >>= _) _ _ s
    refine wpAny_bind (W.item i s _ _ lt st fun v s' pv st' mv => ?_)
    obtain ⟨k, hk, rk⟩ := val i v pv
    have hS' : SetQ w s'.heap S ((ks.take i).foldl addK []) := hS.keep fun o e => mv.heap S o nw e
    show wpAny _ A.in1 (holding [v] (setAdd S v) >>= _) _ _ s'
    refine wpAny_bind (wpAny_holding ?_)
    unfold setAdd
    refine wpAny_holding (wpAny_bind ((mixKind P w).pyHash (k := k) (kV_is rk) ?_))
    have ll := foldl_addK_len (ks.take i) []
    rw [List.length_take, List.length_nil] at ll
    refine setQ_hashed (s := { s' with toks := s'.toks + 1 }) hS' rk (by omega) fun h' b sb hS2 => ?_
    have e1 : (ks.take (i + 1)).foldl addK [] = addK ((ks.take i).foldl addK []) k := take_foldl addK hk []
    rw [← e1] at hS2
    refine wpAny_pure ⟨plainId_quiet F.plain_set_update_loop _, ih (i + 1) _ (by omega) lt (W.frame _ s' _ _ st' (Nat.le_succ _) fun b hb o e => ?_) hS2 fun s'' mv2 hS3 => ?_⟩
    · rw [sb.2 b fun z : b = S => nf (by rw [← z]; exact hb)]
      exact e
    · refine hR s'' (Moved.trans W.gtrans ((mv.mono up).then_heap (Nat.le_succ _) fun b o hb e => ?_) mv2) hS3
      rw [sb.2 b fun z : b = S => hb (by rw [z]; exact List.mem_cons_self)]
      exact e
/-- set(xs), xs a list of ints and texts -/
theorem setQ_of {l : Addr} {items : Array Value} (ks : List Key) {Q : Value → Shared → Prop} (hh : A.handled = none) (hl : s.heap.IsList l items) (rel : Vals (ks.map kV) items.toList) (few : ks.length + 1 < scanBound)
    (h : ∀ (h' : Heap) (tk : Nat), SetQ w h' s.heap.objs.size (ks.foldl addK []) → (∀ b o, s.heap.get? b = some o → h'.get? b = some o) → Q (.ref s.heap.objs.size) { s with heap := h', toks := tk }) :
    wpAny (model P w) A (call (.type "set") [.ref l]) Q E s := by
  have isz : items.size = ks.length := by
    have q : (ks.map kV).length = items.toList.length := rel.length
    rw [List.length_map] at q
    simpa using q.symm
  obtain ⟨c0, tl0, mro0⟩ := F.called_set.mro
  have made0 := F.called_set.made
  have sub0 := F.called_set.sub
  refine wpAny_call (codeAny_of_tree ?_)
  show wpAny _ _ (callAny (.type "set") _) _ _ _
  refine wpAny_pure ⟨Code.quiet_builtin _ (by decide +kernel), codeAny_builtin F.entry_type_call ?_⟩
  rw [Around.under_plain (weight_type_call_type "set" [.ref l] []) rfl]
  have not0 := F.called_set.notType
  have can0 := F.called_set.canCreate
  have call0 := F.typeCall_set_1 (.ref l)
  repeat (any_goals (first | assumption | wp_step))
  refine codeAny_mono (code_set_led1 (.ref l) (E := E) (Q₁ := fun obj s₁ => obj = .ref s.heap.objs.size ∧ s₁ = { s with heap := s.heap.push (newSet w) }) ⟨rfl, rfl⟩) fun r s₁ hr => ?_
  cases r with
  | error e => exact hr
  | ok fl =>
    cases fl with
    | ret obj =>
      obtain ⟨rfl, rfl⟩ := hr
      have ob : (s.heap.push (newSet w)).get? s.heap.objs.size = some (newSet w) := Heap.get?_push_size _ rfl
      have ty : Shared.TypeIs { s with heap := s.heap.push (newSet w) } (.ref s.heap.objs.size) "set" := ⟨_, ob, rfl⟩
      have li0 := F.called_set.init.lookup
      have bi0 := F.called_set.init.bind (.ref s.heap.objs.size)
      repeat (any_goals (first | assumption | wp_step))
      refine codeAny_mono (codeAny_call_builtin (R := wants (fun r s₂ => r = .none ∧ ∃ h' tk, s₂ = { s with heap := h', toks := tk } ∧ SetQ w h' s.heap.objs.size (ks.foldl addK []) ∧ ∀ b o, s.heap.get? b = some o → h'.get? b = some o) E)
        F.called_set.init.plain F.entry_set_init (check_set_init_1 ty ?_)) fun r₂ s₂ hr₂ => ?_
      · obtain ⟨ol, hol, hcl, nl, hdl⟩ := hl
        obtain ⟨ocls, odict, odata, oslots⟩ := ol
        simp only at hcl hdl
        subst hcl hdl
        have hol2 : (s.heap.push (newSet w)).get? l = some { cls := .type "list", dict := odict, data := .seq items nl, slots := oslots } := Heap.get?_push_of_some _ hol
        have f1 := F.sub_list_set
        have f2 := F.sub_list_frozenset
        have f3 : (Value.type "list" == Value.type "dict") = false := by decide
        have isl : (s.heap.push (newSet w)).IsList l items := ⟨_, hol2, rfl, nl, rfl⟩
        unfold Builtin.«set.__init__» noKeywords Builtin.Frozenset.updateFrom
        generalize hPI : pyIter = PI
        wp_walk
        subst hPI
        refine wpAny_pyIter_list isl (wpAny_bind (wpAny_runValue ?_))
        have ls : l < s.heap.objs.size := Heap.lt_size hol
        have h3 : A.in1.in1.in1.handled = none := by simp [hh]
        have ne1 : l ≠ (s.heap.push (newSet w)).objs.size := by
          rw [Heap.size_push]
          exact Nat.ne_of_lt (Nat.lt_succ_of_lt ls)
        have nf : s.heap.objs.size ∉ [(s.heap.push (newSet w)).objs.size, l] := by
          rw [Heap.size_push]
          simp only [List.mem_cons, List.not_mem_nil, or_false, not_or]
          exact ⟨Nat.ne_of_lt (Nat.lt_succ_self _), Nat.ne_of_gt ls⟩
        have val : ∀ (i : Nat) (v : Value), items[i]? = some v → ∃ k, ks[i]? = some k ∧ RelV (kV k) v := fun i v hv => by
          have q : items.toList[i]? = some v := by rw [Array.getElem?_toList]; exact hv
          cases hq : ks[i]? with
          | none =>
            have z := rel.none_of (i := i) (by rw [List.getElem?_map, hq] <;> rfl)
            rw [q] at z
            cases z
          | some k =>
            obtain ⟨u, hu, ru⟩ := rel.get (i := i) (x := kV k) (by rw [List.getElem?_map, hq] <;> rfl)
            rw [q] at hu
            cases hu
            exact ⟨k, rfl, ru⟩
        refine setQ_loop ((Walks.list h3 _ l ne1 items).toS) s.heap.objs.size nf ks isz few val (items.size - 0) 0 _ (by omega) (Nat.zero_le _) ⟨⟨_, Heap.get?_push_size _ rfl, rfl, rfl⟩, (isl.push _)⟩ (setQ_fresh (Heap.get?_push_of_some _ ob)) fun s' mv hS => ?_
        obtain ⟨h', g2, d2, tk2, os2⟩ := s'
        have eg : g2 = s.gens := mv.gens
        have ed : d2 = s.drawn := mv.drawn
        have eo : os2 = s.os := mv.os
        subst eg ed eo
        show wpAny _ _ _ _ _ _
        refine wpAny_pure ?_
        show wpAny _ _ (ret Value.none) _ _ _
        refine wpAny_pure ⟨rfl, h', tk2, rfl, hS, fun b o e => mv.heap b o ?_ (Heap.get?_push_of_some _ (Heap.get?_push_of_some _ e))⟩
        have lb := Heap.lt_size e
        simp only [List.mem_cons, List.not_mem_nil, or_false, not_or]
        refine ⟨Nat.ne_of_lt lb, ?_⟩
        rw [Heap.size_push]
        exact Nat.ne_of_lt (Nat.lt_succ_of_lt lb)
      · cases r₂ with
        | error e => exact hr₂
        | ok fl₂ =>
          cases fl₂ with
          | ret r =>
            obtain ⟨rfl, h', tk, rfl, hS, hk⟩ := hr₂
            repeat (any_goals (first | assumption | wp_step))
            exact h _ _ hS hk
          | _ => exact hr₂.elim
    | _ => exact hr.elim
/-- the members of a set of texts, of ints, in some order -/
theorem strs_of_keys : ∀ (l : List (Int × Value)) (xs : List Str), (∀ e ∈ l, GoodQ w e) → l.map kOf = xs.map Sum.inr → StrsAre (l.map (·.2)) xs
  | [], [], _, _ => .nil
  | [], _ :: _, _, h => by simp at h
  | _ :: _, [], _, h => by simp at h
  | e :: l, x :: xs, g, h => by
    simp only [List.map_cons, List.cons.injEq] at h
    have ih := strs_of_keys l xs (fun q hq => g q (List.mem_cons_of_mem _ hq)) h.2
    rcases g e (List.mem_cons_self ..) with ⟨k, tk, h1, _⟩ | ⟨y, tk, h1, _⟩
    · have z := h.1
      unfold kOf at z
      rw [h1] at z
      cases z
    · have z := h.1
      unfold kOf at z
      rw [h1] at z
      cases z
      rw [List.map_cons, h1]
      exact .cons x tk ih
theorem ints_of_keys : ∀ (l : List (Int × Value)) (xs : List Int), (∀ e ∈ l, GoodQ w e) → l.map kOf = xs.map Sum.inl → IntsAre (l.map (·.2)) xs
  | [], [], _, _ => .nil
  | [], _ :: _, _, h => by simp at h
  | _ :: _, [], _, h => by simp at h
  | e :: l, x :: xs, g, h => by
    simp only [List.map_cons, List.cons.injEq] at h
    have ih := ints_of_keys l xs (fun q hq => g q (List.mem_cons_of_mem _ hq)) h.2
    rcases g e (List.mem_cons_self ..) with ⟨k, tk, h1, _⟩ | ⟨y, tk, h1, _⟩
    · have z := h.1
      unfold kOf at z
      rw [h1] at z
      cases z
      rw [List.map_cons, h1]
      exact .cons x tk ih
    · have z := h.1
      unfold kOf at z
      rw [h1] at z
      cases z
end
end LC

namespace LC
open PySem PySem.Spec PyProof.Rows L2 Evl
/-! ### each once -/
def nub {α : Type} [DecidableEq α] : List α → List α
  | [] => []
  | x :: l => x :: (nub l).filter (fun y => decide (y ≠ x))
section
variable {α : Type} [DecidableEq α]
theorem mem_nub (x : α) : ∀ l : List α, x ∈ nub l ↔ x ∈ l
  | [] => Iff.rfl
  | y :: l => by
    have ih := mem_nub x l
    show x ∈ y :: (nub l).filter (fun z => decide (z ≠ y)) ↔ x ∈ y :: l
    rw [List.mem_cons, List.mem_cons, List.mem_filter, ih]
    simp only [ne_eq, decide_not, Bool.not_eq_true', decide_eq_false_iff_not]
    by_cases h : x = y
    · simp [h]
    · simp [h]
theorem nub_nodup : ∀ l : List α, (nub l).Nodup
  | [] => List.nodup_nil
  | y :: l => by
    refine List.nodup_cons.mpr ⟨fun z => ?_, (nub_nodup l).sublist List.filter_sublist⟩
    simp at z
theorem nub_len : ∀ l : List α, (nub l).length ≤ l.length
  | [] => Nat.le_refl _
  | y :: l => by
    have h1 := nub_len l
    have h2 := List.length_filter_le (fun z => decide (z ≠ y)) (nub l)
    show ((nub l).filter (fun z => decide (z ≠ y))).length + 1 ≤ l.length + 1
    omega
end
/-! ### the order of texts -/
def leS (x y : Str) : Bool := !ltCps y.cps.toList x.cps.toList
theorem lt_trans0 : ∀ a b c : List Nat, ltCps b a = false → ltCps c b = false → ltCps c a = false := by
  intro a
  induction a with
  | nil => intro b c h1 h2; cases c <;> simp_all [ltCps]
  | cons x a ih =>
    intro b c h1 h2
    cases b with
    | nil => simp [ltCps] at h1
    | cons y b =>
      cases c with
      | nil => simp [ltCps] at h2
      | cons z c =>
        simp only [ltCps, Bool.or_eq_false_iff, Bool.and_eq_false_iff, decide_eq_false_iff_not, beq_eq_false_iff_ne] at h1 h2 ⊢
        refine ⟨by omega, ?_⟩
        by_cases e : z = x
        · right
          have e1 : y = x := by omega
          have e2 : z = y := by omega
          rcases h1.2 with q | q
          · exact absurd e1 q
          · rcases h2.2 with q2 | q2
            · exact absurd e2 q2
            · exact ih b c q q2
        · exact .inl e
theorem lt_anti0 : ∀ a b : List Nat, ltCps b a = false → ltCps a b = false → a = b := by
  intro a
  induction a with
  | nil => intro b h1 h2; cases b <;> simp_all [ltCps]
  | cons x a ih =>
    intro b h1 h2
    cases b with
    | nil => simp [ltCps] at h1
    | cons y b =>
      simp only [ltCps, Bool.or_eq_false_iff, Bool.and_eq_false_iff, decide_eq_false_iff_not, beq_eq_false_iff_ne] at h1 h2
      have e : x = y := by omega
      subst e
      rw [ih b (h1.2.resolve_left (fun z => z rfl)) (h2.2.resolve_left fun z => z rfl)]
theorem lt_total0 : ∀ a b : List Nat, ltCps b a = false ∨ ltCps a b = false := by
  intro a
  induction a with
  | nil => intro b; left; cases b <;> simp [ltCps]
  | cons x a ih =>
    intro b
    cases b with
    | nil => right; simp [ltCps]
    | cons y b =>
      simp only [ltCps, Bool.or_eq_false_iff, Bool.and_eq_false_iff, decide_eq_false_iff_not, beq_eq_false_iff_ne]
      rcases ih b with q | q
      · by_cases e : y < x
        · exact .inr ⟨by omega, .inl (by omega)⟩
        · exact .inl ⟨e, .inr q⟩
      · by_cases e : x < y
        · exact .inl ⟨by omega, .inl (by omega)⟩
        · exact .inr ⟨e, .inr q⟩
end LC
namespace LC
open PySem PySem.Spec PyProof.Rows L2 Evl
theorem rising_pair : ∀ (l : List Str) (p : Str), risingS p l = true → (p :: l).Pairwise (fun a b => leS a b = true)
  | [], p, _ => List.pairwise_singleton _ _
  | x :: l, p, h => by
    have h : (!ltCps x.cps.toList p.cps.toList && risingS x l) = true := h
    rw [Bool.and_eq_true] at h
    have ih := rising_pair l x h.2
    refine List.pairwise_cons.mpr ⟨fun y hy => ?_, ih⟩
    rcases List.mem_cons.mp hy with rfl | hy
    · exact h.1
    · have h2 := (List.pairwise_cons.mp ih).1 y hy
      have e1 : ltCps x.cps.toList p.cps.toList = false := by simpa using h.1
      have e2 : ltCps y.cps.toList x.cps.toList = false := by simpa [leS] using h2
      show (!ltCps y.cps.toList p.cps.toList) = true
      rw [lt_trans0 _ _ _ e1 e2] <;> rfl
theorem sorted_pair {l : List Str} (h : sortedS l = true) : l.Pairwise (fun a b => leS a b = true) := by
  cases l with
  | nil => exact List.Pairwise.nil
  | cons x l => exact rising_pair l x h
/-- each once, rising -/
def sortU (xs : List Str) : List Str := (nub xs).mergeSort leS
def sortI (xs : List Int) : List Int := (nub xs).mergeSort fun a b => decide (a ≤ b)
theorem leS_anti {x y : Str} (h1 : leS x y = true) (h2 : leS y x = true) : x = y := by
  have e := lt_anti0 x.cps.toList y.cps.toList (by simpa [leS] using h1) (by simpa [leS] using h2)
  obtain ⟨⟨l1⟩⟩ := x
  obtain ⟨⟨l2⟩⟩ := y
  have e : l1 = l2 := e
  rw [e]
theorem sortU_eq {xs ys : List Str} (hn : ys.Nodup) (hm : ∀ x, x ∈ ys ↔ x ∈ xs) (hs : sortedS ys = true) : ys = sortU xs := by
  have pm : ys.Perm (nub xs) := (List.perm_ext_iff_of_nodup hn (nub_nodup xs)).mpr fun x => (hm x).trans (mem_nub x xs).symm
  refine (pm.trans (List.mergeSort_perm _ _).symm).eq_of_pairwise (fun x y _ _ h1 h2 => leS_anti h1 h2) (sorted_pair hs) (List.pairwise_mergeSort ?_ ?_ _)
  · intro a b c h1 h2
    show (!ltCps c.cps.toList a.cps.toList) = true
    rw [lt_trans0 a.cps.toList b.cps.toList c.cps.toList (by simpa [leS] using h1) (by simpa [leS] using h2)] <;> rfl
  · intro a b
    rcases lt_total0 a.cps.toList b.cps.toList with q | q <;> simp [leS, q]
theorem sortI_eq {xs ys : List Int} (hn : ys.Nodup) (hm : ∀ x, x ∈ ys ↔ x ∈ xs) (hs : ys.Pairwise (· ≤ ·)) : ys = sortI xs := by
  have pm : ys.Perm (nub xs) := (List.perm_ext_iff_of_nodup hn (nub_nodup xs)).mpr fun x => (hm x).trans (mem_nub x xs).symm
  refine (pm.trans (List.mergeSort_perm _ _).symm).eq_of_pairwise (le := fun a b => a ≤ b) (fun x y _ _ h1 h2 => Int.le_antisymm h1 h2) hs ?_
  have h := List.pairwise_mergeSort (le := fun a b : Int => decide (a ≤ b)) (by intro a b c h1 h2; simp at h1 h2 ⊢; omega) (by intro a b; simp; omega) (nub xs)
  exact h.imp fun z => by simpa using z
theorem mem_addK {x k : Key} {L : List Key} : x ∈ addK L k ↔ x ∈ L ∨ x = k := by
  unfold addK
  split
  · rename_i h
    exact ⟨.inl, fun z => z.elim id fun e => e ▸ h⟩
  · rw [List.mem_cons]
    exact Or.comm
theorem mem_foldK {x : Key} : ∀ (ks L : List Key), x ∈ ks.foldl addK L ↔ x ∈ L ∨ x ∈ ks
  | [], L => by simp
  | k :: ks, L => by
    rw [List.foldl_cons, mem_foldK ks, mem_addK, List.mem_cons, or_assoc]
/-- a set of keys, as an object -/
def SetQO (w : World) (a : Addr) (L : List Key) : HO := .ext fun h => SetQ w h a L
theorem setQO_new {P : Program} {w : World} {H : Hp} {h : Heap} {a : Addr} {L : List Key} (R : SetQ w h a L) : ObjOk P w H h a (SetQO w a L) := by
  have ⟨o, _, _, _, ho, _⟩ := R
  exact ⟨R, ⟨o, ho⟩, fun h1 h2 p k => SetQ.keep p k⟩
def rSetQ (K : Frag) (w : World) : List V → Hp → VK → Prop := fun xs H Q => ∃ (l : Addr) (ks : List Key), xs = [V.ref l] ∧ SqL K H l (ks.map kV) ∧ ks.length + 1 < scanBound ∧ ∀ a, H a = none → Q (.ref a) (upd H a (SetQO w a (ks.foldl addK [])))
def rSortQS (w : World) : List V → Hp → VK → Prop := fun vs H Q => ∃ (a : Addr) (L : List Key) (xs : List Str), vs = [V.ref a] ∧ H a = some (SetQO w a L) ∧ L.Nodup ∧ (∀ k, k ∈ L ↔ k ∈ xs.map Sum.inr) ∧ L.length < 64 ∧ ∀ p, H p = none → Q (.ref p) (upd H p (.lst ((sortU xs).map V.str)))
def rSortQI (w : World) : List V → Hp → VK → Prop := fun vs H Q => ∃ (a : Addr) (L : List Key) (xs : List Int), vs = [V.ref a] ∧ H a = some (SetQO w a L) ∧ L.Nodup ∧ (∀ k, k ∈ L ↔ k ∈ xs.map Sum.inl) ∧ L.length < 64 ∧ ∀ p, H p = none → Q (.ref p) (upd H p (.lst ((sortI xs).map V.int)))
theorem all_inr : ∀ {L : List Key} {xs : List Str}, (∀ k ∈ L, k ∈ xs.map Sum.inr) → ∃ ys : List Str, L = ys.map Sum.inr ∧ ∀ y ∈ ys, y ∈ xs
  | [], _, _ => ⟨[], rfl, fun _ h => by cases h⟩
  | k :: L, xs, h => by
    obtain ⟨ys, e, hs⟩ := all_inr (L := L) (xs := xs) fun q hq => h q (List.mem_cons_of_mem _ hq)
    obtain ⟨y, hy, rfl⟩ := List.mem_map.mp (h k (List.mem_cons_self ..))
    exact ⟨y :: ys, by rw [e] <;> rfl, fun z hz => by
      rcases List.mem_cons.mp hz with rfl | hz
      · exact hy
      · exact hs z hz⟩
theorem all_inl : ∀ {L : List Key} {xs : List Int}, (∀ k ∈ L, k ∈ xs.map Sum.inl) → ∃ ys : List Int, L = ys.map Sum.inl ∧ ∀ y ∈ ys, y ∈ xs
  | [], _, _ => ⟨[], rfl, fun _ h => by cases h⟩
  | k :: L, xs, h => by
    obtain ⟨ys, e, hs⟩ := all_inl (L := L) (xs := xs) fun q hq => h q (List.mem_cons_of_mem _ hq)
    obtain ⟨y, hy, rfl⟩ := List.mem_map.mp (h k (List.mem_cons_self ..))
    exact ⟨y :: ys, by rw [e] <;> rfl, fun z hz => by
      rcases List.mem_cons.mp hz with rfl | hz
      · exact hy
      · exact hs z hz⟩
theorem nodup_map' {α β : Type} (f : α → β) : ∀ {l : List α}, (l.map f).Nodup → l.Nodup
  | [], _ => List.nodup_nil
  | x :: l, h => by
    rw [List.map_cons, List.nodup_cons] at h
    exact List.nodup_cons.mpr ⟨fun z => h.1 (List.mem_map.mpr ⟨x, z, rfl⟩), nodup_map' f h.2⟩
theorem strs_perm {us vs : List Value} {xs : List Str} (p : vs.Perm us) (h : StrsAre us xs) : ∃ ys, StrsAre vs ys ∧ ys.Perm xs := by
  induction p generalizing xs with
  | nil =>
    cases h
    exact ⟨[], .nil, List.Perm.nil⟩
  | cons x _ ih =>
    cases h with
    | cons y t h =>
      obtain ⟨ys, h1, h2⟩ := ih h
      exact ⟨y :: ys, .cons y t h1, h2.cons y⟩
  | swap x y l =>
    cases h with
    | cons a t h =>
      cases h with
      | cons b u h => exact ⟨_, .cons b u (.cons a t h), List.Perm.swap _ _ _⟩
  | trans p1 p2 ih1 ih2 =>
    obtain ⟨ys, h1, h2⟩ := ih2 h
    obtain ⟨zs, h3, h4⟩ := ih1 h1
    exact ⟨zs, h3, h4.trans h2⟩
theorem ints_perm {us vs : List Value} {xs : List Int} (p : vs.Perm us) (h : IntsAre us xs) : ∃ ys, IntsAre vs ys ∧ ys.Perm xs := by
  induction p generalizing xs with
  | nil =>
    cases h
    exact ⟨[], .nil, List.Perm.nil⟩
  | cons x _ ih =>
    cases h with
    | cons y t h =>
      obtain ⟨ys, h1, h2⟩ := ih h
      exact ⟨y :: ys, .cons y t h1, h2.cons y⟩
  | swap x y l =>
    cases h with
    | cons a t h =>
      cases h with
      | cons b u h => exact ⟨_, .cons b u (.cons a t h), List.Perm.swap _ _ _⟩
  | trans p1 p2 ih1 ih2 =>
    obtain ⟨ys, h1, h2⟩ := ih2 h
    obtain ⟨zs, h3, h4⟩ := ih1 h1
    exact ⟨zs, h3, h4.trans h2⟩
theorem strs_vals {K : Frag} {H : Hp} : ∀ {vs : List V} {xs : List Str}, DtAll K H vs (xs.map PyData.str) → vs = xs.map V.str
  | _, [], h => by cases h; rfl
  | _, x :: xs, h => by
    cases h with
    | cons h1 h2 =>
      rw [dp_str h1, strs_vals h2]
      rfl
theorem ints_vals {K : Frag} {H : Hp} : ∀ {vs : List V} {xs : List Int}, DtAll K H vs (xs.map PyData.int) → vs = xs.map V.int
  | _, [], h => by cases h; rfl
  | _, x :: xs, h => by
    cases h with
    | cons h1 h2 =>
      rw [dp_int h1, ints_vals h2]
      rfl
section
variable {X : Cx}
theorem crSet (hc : X.calm = true) : CallR X (.type "set") (rSetQ X.K X.w) := by
  intro pins s σ H xs us Q I r h
  obtain ⟨l, ks, rfl, hl, few, q⟩ := h
  rw [Vals.ref1 r]
  obtain ⟨its, rv, pl, hz⟩ := I.list hl
  have hn : H s.heap.objs.size = none := I.hok.fresh (Nat.le_refl _)
  refine setQ_of (P := X.prog) (w := X.w) ks (I.ok.hd hc) pl.isList (by simpa using rv) few fun h' tk R k => ?_
  exact ⟨.ref s.heap.objs.size, upd H s.heap.objs.size (SetQO X.w s.heap.objs.size _), I.laid (t' := tk) k (Nat.le_refl _) (setQO_new R), rfl, q _ hn⟩
theorem crSortS (hc : X.calm = true) : CallR X (.builtin "sorted") (rSortQS X.w) := by
  intro pins s σ H vs us Q I r h
  obtain ⟨a, L, xs, rfl, ha, nd, hm, h64, q⟩ := h
  rw [Vals.ref1 r]
  obtain ⟨o, es, ep, t, ob, oe, od, gq, pm0, nd0, few, fit, ri, le⟩ := (show SetQ X.w s.heap a L from (I.hok a _ ha).1)
  obtain ⟨zs, ez, hz⟩ := all_inr (L := es.toList.map kOf) (xs := xs) fun k hk => (hm k).mp (pm0.mem_iff.mp hk)
  refine Calls.call_function_entry kind_sorted plain_sorted entry_sorted (args_sorted1 _) ?_
  unfold Builtin.«sorted»
  refine wpAny_bind (m := checkCount "sorted" 1 1 _) (wpAny_pure ?after)
  case after =>
  refine wpAny_bind (collect_set (A := X.A.in1) (I.ok.hd hc) ⟨o, ob, oe.1, od⟩ fit few ri le fun s1 vs k1 sz g1 o1 pm => ?_)
  have hS0 : StrsAre (es.toList.map (·.2)) zs := strs_of_keys _ _ gq ez
  have lenE : es.toList.length < 64 := by
    have z := pm0.length_eq
    rw [List.length_map] at z
    omega
  have lenV : vs.length < 64 := by rw [pm.length_eq, List.length_map]; exact lenE
  obtain ⟨zs2, hS, pz⟩ : ∃ zs2, StrsAre vs zs2 ∧ zs2.Perm zs := strs_perm pm hS0
  refine wpAny_bind (wpAny_newList ?_ (by rw [sizeLine_eq]; omega))
  have obL : (s1.heap.push (seqObj "list" vs.toArray 0)).get? s1.heap.objs.size = some (seqObj "list" vs.toArray 0) := Heap.get?_push_size _ rfl
  refine wpAny_bind (wpAny_holding (wpAny_call_entry slot_list_sort ⟨_, obL, rfl⟩ entry_list_sort (list_sort_treeK strKind_oneLt obL hS.keysOf (fun v₁ v₂ rest e => keyKind_strs (by rw [← e]; exact hS)) lenV fun st' hp hs => ⟨_, rfl, ?_⟩) (args_list_sort _)))
  obtain ⟨ys, y1, y2, y3⟩ := sorted_out_str hS hp hs
  obtain ⟨c, hc2⟩ := sortedHeap_at (vs := vs) (out := (arrOf st').map (·.2)) obL
  have ndz : zs.Nodup := by
    have z : (es.toList.map kOf).Nodup := pm0.nodup_iff.mpr nd
    rw [ez] at z
    exact nodup_map' _ z
  have ey : ys = sortU xs := by
    refine sortU_eq ((y2.trans pz).nodup_iff.mpr ndz) (fun x => ?_) y3
    rw [(y2.trans pz).mem_iff]
    refine ⟨hz x, fun hx => ?_⟩
    have z : (Sum.inr x : Key) ∈ es.toList.map kOf := pm0.mem_iff.mpr ((hm _).mpr (List.mem_map.mpr ⟨x, hx, rfl⟩))
    rw [ez] at z
    obtain ⟨x', hx', e⟩ := List.mem_map.mp z
    cases e
    exact hx'
  have ll : (ys.map V.str).length ≤ sizeLine := by
    rw [List.length_map, (y2.trans pz).length_eq, ← List.length_map (f := (Sum.inr : Str → Key)), ← ez, List.length_map, sizeLine_eq]
    omega
  have hn : H s1.heap.objs.size = none := I.hok.fresh sz
  have kp : ∀ b u, s.heap.get? b = some u → (sortedHeap (s1.heap.push (seqObj "list" vs.toArray 0)) s1.heap.objs.size vs ((arrOf st').map (·.2))).get? b = some u := fun b u e => by
    have q := k1 b u e
    have lt := Heap.lt_size q
    rw [sortedHeap_old (Nat.ne_of_lt lt) (by rw [size_push']; exact Nat.lt_succ_of_lt lt)]
    exact Heap.get?_push_of_some _ q
  have ob2 : ObjOk X.prog X.w (upd H s1.heap.objs.size (.lst (ys.map V.str))) (sortedHeap (s1.heap.push (seqObj "list" vs.toArray 0)) s1.heap.objs.size vs ((arrOf st').map (·.2))) s1.heap.objs.size (.lst (ys.map V.str)) :=
    ⟨ll, ((arrOf st').map (·.2)).toList, c, vals_of_strs y1, by rw [Array.toArray_toList]; exact hc2⟩
  obtain ⟨h1, gg, dd, tt, oo⟩ := s1
  have eo : oo = s.os := o1
  have eg : gg = s.gens := g1
  subst eo
  subst eg
  have J : Inv X pins σ (upd H h1.objs.size (.lst (ys.map V.str))) { s with heap := sortedHeap (h1.push (seqObj "list" vs.toArray 0)) h1.objs.size vs ((arrOf st').map (·.2)), gens := s.gens, drawn := dd, toks := tt } :=
    I.call (ch := []) (Un.laid kp sz hn) (I.hok.laid kp sz ob2) I.bare (fun _ z => nomatch z)
  refine wpAny_pure ⟨_, rfl, ?_⟩
  rw [ey] at J
  exact ⟨.ref h1.objs.size, _, J, rfl, q _ hn⟩
theorem crSortI (hc : X.calm = true) : CallR X (.builtin "sorted") (rSortQI X.w) := by
  intro pins s σ H vs us Q I r h
  obtain ⟨a, L, xs, rfl, ha, nd, hm, h64, q⟩ := h
  rw [Vals.ref1 r]
  obtain ⟨o, es, ep, t, ob, oe, od, gq, pm0, nd0, few, fit, ri, le⟩ := (show SetQ X.w s.heap a L from (I.hok a _ ha).1)
  obtain ⟨zs, ez, hz⟩ := all_inl (L := es.toList.map kOf) (xs := xs) fun k hk => (hm k).mp (pm0.mem_iff.mp hk)
  refine Calls.call_function_entry kind_sorted plain_sorted entry_sorted (args_sorted1 _) ?_
  unfold Builtin.«sorted»
  refine wpAny_bind (m := checkCount "sorted" 1 1 _) (wpAny_pure ?after)
  case after =>
  refine wpAny_bind (collect_set (A := X.A.in1) (I.ok.hd hc) ⟨o, ob, oe.1, od⟩ fit few ri le fun s1 vs k1 sz g1 o1 pm => ?_)
  have hS0 : IntsAre (es.toList.map (·.2)) zs := ints_of_keys _ _ gq ez
  have lenE : es.toList.length < 64 := by
    have z := pm0.length_eq
    rw [List.length_map] at z
    omega
  have lenV : vs.length < 64 := by rw [pm.length_eq, List.length_map]; exact lenE
  obtain ⟨zs2, hS, pz⟩ : ∃ zs2, IntsAre vs zs2 ∧ zs2.Perm zs := ints_perm pm hS0
  refine wpAny_bind (wpAny_newList ?_ (by rw [sizeLine_eq]; omega))
  have obL : (s1.heap.push (seqObj "list" vs.toArray 0)).get? s1.heap.objs.size = some (seqObj "list" vs.toArray 0) := Heap.get?_push_size _ rfl
  refine wpAny_bind (wpAny_holding (wpAny_call_entry slot_list_sort ⟨_, obL, rfl⟩ entry_list_sort (list_sort_tree obL hS lenV fun out ys y1 y2 y3 => ⟨_, rfl, ?_⟩) (args_list_sort _)))
  obtain ⟨c, hc2⟩ := sortedHeap_at (vs := vs) (out := out) obL
  have ndz : zs.Nodup := by
    have z : (es.toList.map kOf).Nodup := pm0.nodup_iff.mpr nd
    rw [ez] at z
    exact nodup_map' _ z
  have ey : ys = sortI xs := by
    refine sortI_eq ((y2.trans pz).nodup_iff.mpr ndz) (fun x => ?_) y3
    rw [(y2.trans pz).mem_iff]
    refine ⟨hz x, fun hx => ?_⟩
    have z : (Sum.inl x : Key) ∈ es.toList.map kOf := pm0.mem_iff.mpr ((hm _).mpr (List.mem_map.mpr ⟨x, hx, rfl⟩))
    rw [ez] at z
    obtain ⟨x', hx', e⟩ := List.mem_map.mp z
    cases e
    exact hx'
  have ll : (ys.map V.int).length ≤ sizeLine := by
    rw [List.length_map, (y2.trans pz).length_eq, ← List.length_map (f := (Sum.inl : Int → Key)), ← ez, List.length_map, sizeLine_eq]
    omega
  have hn : H s1.heap.objs.size = none := I.hok.fresh sz
  have kp : ∀ b u, s.heap.get? b = some u → (sortedHeap (s1.heap.push (seqObj "list" vs.toArray 0)) s1.heap.objs.size vs out).get? b = some u := fun b u e => by
    have q := k1 b u e
    have lt := Heap.lt_size q
    rw [sortedHeap_old (Nat.ne_of_lt lt) (by rw [size_push']; exact Nat.lt_succ_of_lt lt)]
    exact Heap.get?_push_of_some _ q
  have ob2 : ObjOk X.prog X.w (upd H s1.heap.objs.size (.lst (ys.map V.int))) (sortedHeap (s1.heap.push (seqObj "list" vs.toArray 0)) s1.heap.objs.size vs out) s1.heap.objs.size (.lst (ys.map V.int)) :=
    ⟨ll, out.toList, c, vals_of_ints y1, by rw [Array.toArray_toList]; exact hc2⟩
  obtain ⟨h1, gg, dd, tt, oo⟩ := s1
  have eo : oo = s.os := o1
  have eg : gg = s.gens := g1
  subst eo
  subst eg
  have J : Inv X pins σ (upd H h1.objs.size (.lst (ys.map V.int))) { s with heap := sortedHeap (h1.push (seqObj "list" vs.toArray 0)) h1.objs.size vs out, gens := s.gens, drawn := dd, toks := tt } :=
    I.call (ch := []) (Un.laid kp sz hn) (I.hok.laid kp sz ob2) I.bare (fun _ z => nomatch z)
  refine wpAny_pure ⟨_, rfl, ?_⟩
  rw [ey] at J
  exact ⟨.ref h1.objs.size, _, J, rfl, q _ hn⟩
end
end LC
namespace LC
open PySem PySem.Spec PyProof.Rows L2 Evl
section
variable {X : Cx} {K : Frag} {w : World}
theorem kSet (h : X.K = K) (hw : X.w = w) (hc : X.calm = true) : CallR X (.type "set") (rSetQ K w) := by
  subst h hw
  exact crSet hc
def rSortU (w : World) : List V → Hp → VK → Prop := fun vs H Q => rSortQS w vs H Q ∨ rSortQI w vs H Q
theorem kSort (hw : X.w = w) (hc : X.calm = true) : CallR X (.builtin "sorted") (rSortU w) := by
  subst hw
  exact CallR.or (crSortS hc) (crSortI hc)
end
section
variable {K : Frag} {w : World} {σ : L2.St} {H : Hp} {te : TE}
theorem foldK_nodup : ∀ (ks L : List Key), L.Nodup → (ks.foldl addK L).Nodup
  | [], L, h => h
  | k :: ks, L, h => by
    refine foldK_nodup ks (addK L k) ?_
    unfold addK
    split
    · exact h
    · rename_i n
      exact List.nodup_cons.mpr ⟨n, h⟩
/-- sorted(set(xs)), xs a list of texts; of ints -/
theorem evd_sortS {xs : List Str} (h : EvD K te σ H (.list (xs.map PyData.str))) (hl : xs.length < 60) : EvD K (tCB (rSortU w) (tCons (tCB (rSetQ K w) (tCons te tNil)) tNil)) σ H (.list ((sortU xs).map PyData.str)) := fun H1 e Q q =>
  h H1 e _ fun v H2 A g hd => by
    obtain ⟨a, vs, rfl, hs, hall⟩ := dp_lst hd
    have ev : vs = (xs.map (Sum.inr : Str → Key)).map kV := by
      rw [List.map_map]
      exact strs_vals hall
    refine ⟨a, xs.map Sum.inr, rfl, sq_of (by rw [← ev]; exact g.d2 _ _ hs), by rw [List.length_map]; unfold scanBound; omega, fun b hb => ?_⟩
    have ll := foldl_addK_len (xs.map (Sum.inr : Str → Key)) []
    rw [List.length_map, List.length_nil] at ll
    refine .inl ⟨b, _, xs, rfl, upd_same, foldK_nodup _ [] List.nodup_nil, fun k => by rw [mem_foldK]; simp, by omega, fun p hp => ?_⟩
    have hp2 : H2 p = none := fresh_back (Ex.new hb) hp
    have npb : p ≠ b := fun z => by rw [z, upd_same] at hp; cases hp
    have g2 : Gr H H1 (upd (upd H2 b (SetQO w b ((xs.map (Sum.inr : Str → Key)).foldl addK []))) p (.lst ((sortU xs).map V.str))) (upd A p (.lst ((sortU xs).map V.str))) := (g.more (Ex.new hb)).new _ hp
    exact q _ _ _ g2 (.lst upd_same (dt_strs _))
theorem evd_sortI {xs : List Int} (h : EvD K te σ H (.list (xs.map PyData.int))) (hl : xs.length < 60) : EvD K (tCB (rSortU w) (tCons (tCB (rSetQ K w) (tCons te tNil)) tNil)) σ H (.list ((sortI xs).map PyData.int)) := fun H1 e Q q =>
  h H1 e _ fun v H2 A g hd => by
    obtain ⟨a, vs, rfl, hs, hall⟩ := dp_lst hd
    have ev : vs = (xs.map (Sum.inl : Int → Key)).map kV := by
      rw [List.map_map]
      exact ints_vals hall
    refine ⟨a, xs.map Sum.inl, rfl, sq_of (by rw [← ev]; exact g.d2 _ _ hs), by rw [List.length_map]; unfold scanBound; omega, fun b hb => ?_⟩
    have ll := foldl_addK_len (xs.map (Sum.inl : Int → Key)) []
    rw [List.length_map, List.length_nil] at ll
    refine .inr ⟨b, _, xs, rfl, upd_same, foldK_nodup _ [] List.nodup_nil, fun k => by rw [mem_foldK]; simp, by omega, fun p hp => ?_⟩
    have g2 : Gr H H1 (upd (upd H2 b (SetQO w b ((xs.map (Sum.inl : Int → Key)).foldl addK []))) p (.lst ((sortI xs).map V.int))) (upd A p (.lst ((sortI xs).map V.int))) := (g.more (Ex.new hb)).new _ hp
    exact q _ _ _ g2 (.lst upd_same (dt_ints _))
end
end LC

namespace LC
open PySem PySem.Spec PyProof.Rows L2 Evl
/-! ### defs that raise -/
def veB : List Value := [.type "ValueError", .type "Exception", .type "BaseException", .type "object"]
structure ExcF (K : Frag) (mg : Str → Option Value) (x : Str) (c : Addr) : Prop where
  q : PySem.W.excIn K c veB "ValueError.__new__" = true
  g : mg x = some (.ref c)
  k : PySem.W.keepIn K (.ref c) = true
  b : PySem.W.subIn K (.ref c) (.type "BaseException") = some true
  t : PySem.W.typeIn K (.ref c) = some (.type "type")
section
variable {P : Program} {w : World} {K : Frag} {mg : Str → Option Value} {base : Heap} {x q : Str} {st : Stmt} {f : Addr} {fd : FuncData} {N ps : List Str} {k : Nat} {sp : Sp}
theorem has_x (F : FnP K x q st f fd) (g : mg x = some (.ref f)) (b : Binds K fd ps []) (S : FnScope N ps (defScope st)) (len : ∀ vs H Q E, sp vs H Q E → vs.length = ps.length)
    (hbody : ∀ (cdv : Value) (A : Around) (outer : List Env) (s : Shared) (H : Hp) (vs : List V) (Q : VK) (E : XK), Room k (A.deeper (envOfC q (defScope st) s.heap.objs.size f cdv)) → sp vs H Q E →
      ∃ t, PSs (cxOf (L2.CX P w) P w K mg base N q (defScope st) f cdv A outer s H E) (defBody st) t ∧ t { nx := fun _ H' => Q .non H', rt := Q } (start N vs) H) : Has P w K mg base (L2.CX P w) (k + 1) x ps sp :=
  ⟨f, fd, F.ok S len hbody, b, F.kp, g⟩
theorem has_p (F : FnP K x q st f fd) (g : mg x = some (.ref f)) (b : Binds K fd ps []) (S : FnScope N ps (defScope st)) (len : ∀ vs H Q E, sp vs H Q E → vs.length = ps.length)
    (hbody : ∀ (cdv : Value) (A : Around) (outer : List Env) (s : Shared) (H : Hp) (vs : List V) (Q : VK) (E : XK), Room k (A.deeper (envOfC q (defScope st) s.heap.objs.size f cdv)) → sp vs H Q E →
      ∃ t, PSs (cxOf CX0 P w K mg base N q (defScope st) f cdv A outer s H E).nox (defBody st) t ∧ t { nx := fun _ H' => Q .non H', rt := Q } (start N vs) H) : Has P w K mg base CX0 (k + 1) x ps sp :=
  ⟨f, fd, F.ok S len (fun cdv A outer s H vs Q E hr h => by
    obtain ⟨t, ht, r⟩ := hbody cdv A outer s H vs Q E hr h
    exact ⟨t, PSs.nox ht, r⟩), b, F.kp, g⟩
end
/-- a promise over data that may be refused with the class at cB -/
def spDX (K : Frag) (cB : Addr) (F : List PyData → Option PyData → Prop) : Sp := fun vs H Q E => ∃ ds o H0, Ex H0 H ∧ DtAll K H0 vs ds ∧ F ds o ∧ (∀ d, o = some d → Rt K H0 H d Q) ∧ (o = none → ∀ H2, Ex H H2 → E (.ref cB) none H2)
def F_look (ds : List PyData) (o : Option PyData) : Prop := ∃ d, ds = [d] ∧ okD d = true ∧ o = if isSource d then some .none else none
/-! ### what is a source is one by its tree -/
theorem isSum_dec : ∀ (n : Nat) (d : PyData), isSum n d = true → ∃ s : Sm, d = s.enc ∧ s.good = true ∧ s.depth ≤ n := by
  intro n
  induction n with
  | zero =>
    intro d h
    cases d with
    | str s => exact ⟨.nm s, rfl, by unfold isSum at h; exact h, Nat.zero_le _⟩
    | int i => exact ⟨.num i, rfl, by unfold isSum isWithin at h; exact h, Nat.zero_le _⟩
    | tuple ds => simp [isSum] at h
    | _ => simp [isSum, isWithin] at h
  | succ n ih =>
    intro d h
    cases d with
    | str s => exact ⟨.nm s, rfl, by unfold isSum at h; exact h, Nat.zero_le _⟩
    | int i => exact ⟨.num i, rfl, by unfold isSum isWithin at h; exact h, Nat.zero_le _⟩
    | tuple ds =>
      match ds with
      | .str w :: r =>
        have h : (sumHead w (r.length + 1) && r.all (isSum n)) = true := h
        rw [Bool.and_eq_true] at h
        obtain ⟨h1, h2⟩ := h
        unfold sumHead at h1
        rw [Bool.or_eq_true, Bool.and_eq_true, Bool.and_eq_true] at h1
        rcases h1 with ⟨hw, hl⟩ | ⟨hw, hl⟩
        · match r with
          | [a, b] =>
            simp only [List.all_cons, List.all_nil, Bool.and_true, Bool.and_eq_true] at h2
            obtain ⟨sa, rfl, ga, da⟩ := ih a h2.1
            obtain ⟨sb, rfl, gb, db⟩ := ih b h2.2
            refine ⟨.op w sa sb, rfl, ?_, ?_⟩
            · show (decide (w ∈ wordsS) && (sa.good && sb.good)) = true
              rw [hw, ga, gb] <;> rfl
            · show max sa.depth sb.depth + 1 ≤ n + 1
              omega
          | [] => simp at hl
          | [_] => simp at hl
          | _ :: _ :: _ :: _ => simp at hl <;> omega
        · have ew : w = "if" := of_decide_eq_true hw
          subst ew
          match r with
          | [a, b, c] =>
            simp only [List.all_cons, List.all_nil, Bool.and_true, Bool.and_eq_true] at h2
            obtain ⟨sa, rfl, ga, da⟩ := ih a h2.1
            obtain ⟨sb, rfl, gb, db⟩ := ih b h2.2.1
            obtain ⟨sc, rfl, gc, dc⟩ := ih c h2.2.2
            refine ⟨.ite sa sb sc, rfl, ?_, ?_⟩
            · show (sa.good && (sb.good && sc.good)) = true
              rw [ga, gb, gc] <;> rfl
            · show max sa.depth (max sb.depth sc.depth) + 1 ≤ n + 1
              omega
          | [] => simp at hl
          | [_] => simp at hl
          | [_, _] => simp at hl
          | _ :: _ :: _ :: _ :: _ => simp at hl <;> omega
      | [] => simp [isSum] at h
      | .none :: _ => simp [isSum] at h
      | .bool _ :: _ => simp [isSum] at h
      | .int _ :: _ => simp [isSum] at h
      | .list _ :: _ => simp [isSum] at h
      | .tuple _ :: _ => simp [isSum] at h
      | .dict _ :: _ => simp [isSum] at h
    | _ => simp [isSum, isWithin] at h
theorem isRow_dec (d : PyData) (h : isRow d = true) : ∃ r : Rw, d = r.enc ∧ r.good = true := by
  unfold isRow at h
  split at h
  · rename_i w a
    rw [Bool.and_eq_true] at h
    have ew : w = "show" := of_decide_eq_true h.1
    subst ew
    obtain ⟨s, rfl, g, dp⟩ := isSum_dec 6 a h.2
    refine ⟨.shw s, rfl, ?_⟩
    show (s.good && decide (s.depth ≤ 6)) = true
    rw [g, decide_eq_true dp] <;> rfl
  · rename_i w y a
    rw [Bool.and_eq_true, Bool.and_eq_true] at h
    have ew : w = "set" := of_decide_eq_true h.1
    subst ew
    obtain ⟨s, rfl, g, dp⟩ := isSum_dec 6 a h.2.2
    cases y with
    | str x =>
      refine ⟨.set x s, rfl, ?_⟩
      show (nameS x && (s.good && decide (s.depth ≤ 6))) = true
      have hx : nameS x = true := h.2.1
      rw [hx, g, decide_eq_true dp] <;> rfl
    | _ => have z := h.2.1; simp [isName] at z
  · cases h
theorem isSource_dec (d : PyData) (h : isSource d = true) : ∃ src : Src, d = encS src ∧ goodS src = true := by
  cases d with
  | tuple rs =>
    have h : (decide (rs.length ≤ 8) && rs.all isRow) = true := h
    rw [Bool.and_eq_true, List.all_eq_true] at h
    have key : ∀ l : List PyData, (∀ d ∈ l, isRow d = true) → ∃ src : Src, l = src.map Rw.enc ∧ ∀ r ∈ src, r.good = true := by
      intro l
      induction l with
      | nil => intro _; exact ⟨[], rfl, fun _ z => by cases z⟩
      | cons d l ih =>
        intro hl
        obtain ⟨src, rfl, hs⟩ := ih fun q hq => hl q (List.mem_cons_of_mem _ hq)
        obtain ⟨r, rfl, hr⟩ := isRow_dec d (hl d (List.mem_cons_self ..))
        exact ⟨r :: src, rfl, fun q hq => by
          rcases List.mem_cons.mp hq with rfl | hq
          · exact hr
          · exact hs q hq⟩
    obtain ⟨src, rfl, hs⟩ := key rs h.2
    refine ⟨src, rfl, ?_⟩
    unfold goodS
    rw [Bool.and_eq_true, List.all_eq_true]
    have h1 := of_decide_eq_true h.1
    rw [List.length_map] at h1
    exact ⟨decide_eq_true h1, hs⟩
  | _ => simp [isSource] at h
def F_sets (ds : List PyData) (o : Option PyData) : Prop := ∃ d, ds = [d] ∧ okD d = true ∧ ((∃ src, d = encS src ∧ goodS src = true ∧ o = some (.list ((sortU (setsOf src)).map PyData.str))) ∨ (isSource d = false ∧ o = none))
def F_reads (ds : List PyData) (o : Option PyData) : Prop := ∃ d, ds = [d] ∧ okD d = true ∧ ((∃ src, d = encS src ∧ goodS src = true ∧ o = some (.list ((readsOf src).map PyData.str))) ∨ (isSource d = false ∧ o = none))
theorem setsOf_len (src : Src) : (setsOf src).length ≤ src.length := by
  induction src with
  | nil => exact Nat.le_refl _
  | cons r src ih =>
    show (r.sets ++ setsOf src).length ≤ src.length + 1
    rw [List.length_append]
    have : r.sets.length ≤ 1 := by cases r <;> simp [Rw.sets]
    omega
section
variable {K : Frag} {σ : L2.St} {H0 H : Hp} {ta : TA} {D : Ends} {cB : Addr} {E : XK} {tw : TS} {F : List PyData → Option PyData → Prop}
/-- f(..) as a statement, f may refuse -/
theorem s_callX {ds : List PyData} {o : Option PyData} (h : EvDs K ta σ H0 ds) (x : Ex H0 H) (hf : F ds o) (k1 : ∀ d, o = some d → ∀ H1, Ex H H1 → D.nx σ H1) (k2 : o = none → ∀ H1, Ex H H1 → E (.ref cB) none H1) : tDrop (tCall (spDX K cB F) [] E ta) D σ H :=
  h H x _ fun vs H2 A g hd => ⟨ds, o, A, g.d2, by rw [List.append_nil]; exact hd, hf, fun d e v H3 B g3 _ => k1 d e H3 (g.ex.trans g3.ex), fun e H3 e3 => k2 e H3 (g.ex.trans e3)⟩
end
end LC

namespace LC
open PySem PySem.Spec PyProof.Rows L2 Evl
/-! ### one step behind the other: the base moves on -/
section
variable {K : Frag} {H0 H H1 H2 Hd Hd2 A Hs H' : Hp} {d : PyData} {Q : VK} {p : Addr} {out : List PyData} {σ : L2.St} {te : TE} {ta : TA} {D : Ends} {tu : TS} {i j : Nat}
theorem Gr.seq (g1 : Gr H0 H H1 Hd) (g2 : Gr Hd H1 H2 Hd2) : Gr H0 H H2 Hd2 := ⟨g1.ex.trans g2.ex, g1.xd.trans g2.xd, g2.d2, fun a h0 h1 => g2.fr a (g1.fr a h0 h1) (ne_none g1.ex h1)⟩
theorem Gr.refl (x : Ex H0 H) : Gr H0 H H H0 := Gr.base x (Ex.refl H)
theorem Rt.seq (k : Rt K H0 H d Q) (g : Gr H0 H H1 Hd) : Rt K Hd H1 d Q := fun v H2 Hd2 g2 => k v H2 Hd2 (g.seq g2)
theorem Acc.debase (a : Acc K Hd Hs p out H2) (g : Gr A H' H1 Hd) (x : Ex Hs H') : Acc K A Hs p out H2 := by
  obtain ⟨x0, B, acc, h1, h2, h3, h4, h5, h6⟩ := a
  exact ⟨x0, B, acc, h1, g.xd.trans h2, h3, h4, fun b hb hn => h5 b (g.fr b hb (ne_none x hn)) hn, h6⟩
theorem Acc.own (a : Acc K A Hs p out H') : H' p ≠ none := by
  obtain ⟨acc, q, _⟩ := a.at
  rw [q]
  exact fun z => nomatch z
/-- for k in range(n) -/
theorem s_forN {n : Nat} (h : EvDs K ta σ H0 [.int (n : Int)]) (x : Ex H0 H) (hn : n ≤ 100000) (Pv : Nat → L2.St → Hp → Prop) (h0 : ∀ H1, Ex H H1 → Pv 0 σ H1)
    (hs : ∀ (i : Nat) σ' H', i < n → Pv i σ' H' → tu { D with nx := Pv (i + 1), ct := Pv (i + 1), bk := D.nx } (σ'.set j (some (.int (i : Int)))) H') (hd : ∀ σ' H', Pv n σ' H' → D.nx σ' H') : tFor (iRng1 ta) (gName j) tu D σ H :=
  h H x _ fun ws H1 A gr hw => by
    obtain ⟨v, rfl, hv⟩ := dts1 hw
    rw [dp_int hv]
    refine ⟨n, rfl, by omega, by omega, for_range (lo := 0) (n := (n : Int).toNat) Pv (h0 H1 gr.ex) (fun i σ' H' hi q => ?_) fun σ' H' q => hd σ' H' (by rw [Int.toNat_natCast] at q; exact q)⟩
    have e0 : (0 : Int) + (i : Int) = (i : Int) := Int.zero_add _
    show tu { D with nx := Pv (i + 1), ct := Pv (i + 1), bk := D.nx } (σ'.set j (some (.int ((0 : Int) + (i : Int))))) H'
    rw [e0]
    exact hs i σ' H' (by omega) q
end
/-! ### the law's own numbers -/
def cellAt (ns : List Int) (k : Int) : Int := ns.getD k.toNat 0
def seedF (s k : Int) : Int := ((s * 1103515245 + 7919 * k + 12345) % 2147483647) ^ 5 % 2147483647
def spLcell (K : Frag) : Sp := fun vs H Q _ => ∃ (a : Addr) (ns : List Int) (k : Int), vs = [.ref a, .int k] ∧ SqL K H a (ns.map V.int) ∧ 0 ≤ k ∧ ns.length ≤ 63 ∧ ∀ H2, Ex H H2 → Q (.int (cellAt ns k)) H2
def F_seed (ds : List PyData) (d : PyData) : Prop := ∃ s k, ds = [.int s, .int k] ∧ d = .int (seedF s k)
def F_pick (ds : List PyData) (d : PyData) : Prop := ∃ s m : Int, ds = [.int s, .int m] ∧ 0 < m ∧ d = .int (s / 97 % m)
def leafs (s : Int) : List Sm := [.num (s / 7 % 10), .num (s / 7 % 4), .num (s / 7 % 10000), .num 0, .nm "a", .nm "b", .nm "c", .nm "wxyz", .nm "a", .nm "b"]
def lawLeaf (s : Int) : Sm := (leafs s).getD (s / 5 % 10).toNat (.num 0)
def lawWords : List Str := ["add", "less", "times", "over", "same", "if", "add"]
def lawWord (s : Int) : Str := lawWords.getD (s / 11 % 7).toNat "add"
def lawSum : Nat → Int → Sm
  | 0, s => lawLeaf s
  | n + 1, s => if s / 97 % 3 = 0 then lawLeaf s else if lawWord s = "if" then .ite (lawSum n (seedF s 0)) (lawSum n (seedF s 1)) (lawSum n (seedF s 2)) else .op (lawWord s) (lawSum n (seedF s 0)) (lawSum n (seedF s 1))
def F_lsum (n : Nat) (ds : List PyData) (d : PyData) : Prop := ∃ s : Int, ds = [.int s, .int (n : Int)] ∧ d = (lawSum n s).enc
theorem mod_lt10 (x m : Int) (h : 0 < m) : 0 ≤ x % m ∧ x % m < m := ⟨Int.emod_nonneg _ (by omega), Int.emod_lt_of_pos _ h⟩
theorem leaf_mem (s : Int) : lawLeaf s ∈ leafs s := by
  unfold lawLeaf
  have h := mod_lt10 (s / 5) 10 (by omega)
  rw [List.getD_eq_getElem?_getD, List.getElem?_eq_getElem (show (s / 5 % 10).toNat < (leafs s).length by show _ < 10; omega)]
  exact List.getElem_mem _
theorem leafs_good (s : Int) : ∀ q ∈ leafs s, q.good = true ∧ q.depth = 0 := by
  intro q hq
  have h1 := mod_lt10 (s / 7) 10 (by omega)
  have h2 := mod_lt10 (s / 7) 4 (by omega)
  have h3 := mod_lt10 (s / 7) 10000 (by omega)
  have na : nameS "a" = true := by decide +kernel
  have nb : nameS "b" = true := by decide +kernel
  have nc : nameS "c" = true := by decide +kernel
  have nw : nameS "wxyz" = true := by decide +kernel
  unfold leafs at hq
  simp only [List.mem_cons, List.not_mem_nil, or_false] at hq
  rcases hq with rfl | rfl | rfl | rfl | rfl | rfl | rfl | rfl | rfl | rfl
  · exact ⟨by show (decide _ && decide _) = true; rw [decide_eq_true h1.1, decide_eq_true (by omega)] <;> rfl, rfl⟩
  · exact ⟨by show (decide _ && decide _) = true; rw [decide_eq_true h2.1, decide_eq_true (by omega)] <;> rfl, rfl⟩
  · exact ⟨by show (decide _ && decide _) = true; rw [decide_eq_true h3.1, decide_eq_true (by omega)] <;> rfl, rfl⟩
  · exact ⟨by decide, rfl⟩
  · exact ⟨na, rfl⟩
  · exact ⟨nb, rfl⟩
  · exact ⟨nc, rfl⟩
  · exact ⟨nw, rfl⟩
  · exact ⟨na, rfl⟩
  · exact ⟨nb, rfl⟩
theorem word_mem (s : Int) : lawWord s ∈ lawWords := by
  unfold lawWord
  have h := mod_lt10 (s / 11) 7 (by omega)
  rw [List.getD_eq_getElem?_getD, List.getElem?_eq_getElem (show (s / 11 % 7).toNat < lawWords.length by show _ < 7; omega)]
  exact List.getElem_mem _
theorem word_good (s : Int) (h : ¬ lawWord s = "if") : lawWord s ∈ wordsS := by
  have q : lawWords.all (fun w => decide (w = "if") || decide (w ∈ wordsS)) = true := by decide +kernel
  have z := List.all_eq_true.mp q _ (word_mem s)
  rw [Bool.or_eq_true] at z
  rcases z with z | z
  · exact absurd (of_decide_eq_true z) h
  · exact of_decide_eq_true z
theorem lawSum_good : ∀ (n : Nat) (s : Int), (lawSum n s).good = true ∧ (lawSum n s).depth ≤ n
  | 0, s => by
    have h := leafs_good s _ (leaf_mem s)
    exact ⟨h.1, by show (lawLeaf s).depth ≤ 0; omega⟩
  | n + 1, s => by
    unfold lawSum
    have ih := fun k => lawSum_good n (seedF s k)
    split
    · have h := leafs_good s _ (leaf_mem s)
      exact ⟨h.1, by omega⟩
    · split
      · refine ⟨?_, ?_⟩
        · show (Sm.good _ && (Sm.good _ && Sm.good _)) = true
          rw [(ih 0).1, (ih 1).1, (ih 2).1] <;> rfl
        · show max _ (max _ _) + 1 ≤ n + 1
          have h0 := (ih 0).2
          have h1 := (ih 1).2
          have h2 := (ih 2).2
          omega
      · rename_i hw
        refine ⟨?_, ?_⟩
        · show (decide _ && (Sm.good _ && Sm.good _)) = true
          rw [decide_eq_true (word_good s hw), (ih 0).1, (ih 1).1] <;> rfl
        · show max _ _ + 1 ≤ n + 1
          have h0 := (ih 0).2
          have h1 := (ih 1).2
          omega
/-! a source drawn -/
def lawMany (s : Int) : Nat := ([s / 7 % 4, 1 + s / 7 % 3, s / 7 % 9].getD (s / 11 % 3).toNat 0).toNat
def lawDeep (s : Int) : Nat := if s / 13 % 9 = 0 then 6 else (s / 7 % 3).toNat
def lawName (s : Int) : Str := (["a", "b", "c", "wxyz"] : List Str).getD (s / 11 % 4).toNat "a"
def lawRow (one : Int) : Rw := if 0 < one / 97 % 3 then .set (lawName one) (lawSum (lawDeep one) (seedF one 1)) else .shw (lawSum (lawDeep one) (seedF one 1))
def lawSource (s : Int) : Src := (List.range (lawMany s)).map fun k : Nat => lawRow (seedF s (20 + (k : Int)))
def F_lsource (ds : List PyData) (d : PyData) : Prop := ∃ s : Int, ds = [.int s] ∧ d = encS (lawSource s)
theorem lawMany_le (s : Int) : lawMany s ≤ 8 := by
  unfold lawMany
  have h1 := mod_lt10 (s / 7) 4 (by omega)
  have h2 := mod_lt10 (s / 7) 3 (by omega)
  have h3 := mod_lt10 (s / 7) 9 (by omega)
  have h := mod_lt10 (s / 11) 3 (by omega)
  have hc : (s / 11 % 3).toNat = 0 ∨ (s / 11 % 3).toNat = 1 ∨ (s / 11 % 3).toNat = 2 := by omega
  rcases hc with e | e | e <;> rw [e] <;> simp <;> omega
theorem lawDeep_le (s : Int) : lawDeep s ≤ 6 := by
  unfold lawDeep
  have h2 := mod_lt10 (s / 7) 3 (by omega)
  split <;> omega
theorem lawName_good (s : Int) : nameS (lawName s) = true := by
  unfold lawName
  have h := mod_lt10 (s / 11) 4 (by omega)
  have hc : (s / 11 % 4).toNat = 0 ∨ (s / 11 % 4).toNat = 1 ∨ (s / 11 % 4).toNat = 2 ∨ (s / 11 % 4).toNat = 3 := by omega
  rcases hc with e | e | e | e <;> rw [e] <;> decide +kernel
theorem lawRow_good (s : Int) : (lawRow s).good = true := by
  have h := lawSum_good (lawDeep s) (seedF s 1)
  have hd := lawDeep_le s
  unfold lawRow
  split
  · show (nameS _ && (Sm.good _ && decide _)) = true
    rw [lawName_good, h.1, decide_eq_true (by omega)] <;> rfl
  · show (Sm.good _ && decide _) = true
    rw [h.1, decide_eq_true (by omega)] <;> rfl
theorem lawSource_good (s : Int) : goodS (lawSource s) = true := by
  unfold goodS lawSource
  rw [List.length_map, List.length_range, decide_eq_true (lawMany_le s), Bool.true_and, List.all_map, List.all_eq_true]
  intro k _
  exact lawRow_good _
theorem getD_atI {α : Type} (l : List α) (m : Int) (x : α) (h : 0 ≤ m) (hl : m < l.length) : atI l m = some (l.getD m.toNat x) := by
  obtain ⟨k, rfl⟩ : ∃ k : Nat, m = (k : Int) := ⟨m.toNat, by omega⟩
  refine atI_nat ?_
  rw [List.getD_eq_getElem?_getD, Int.toNat_natCast, List.getElem?_eq_getElem (by omega)]
  rfl
end LC
namespace LC
open PySem PySem.Spec PyProof.Rows L2 Evl
/-- .. with the def's address told -/
def HasF (P : Program) (w : World) (K : Frag) (mg : Str → Option Value) (base : Heap) (CX : CXT) (k : Nat) (x : Str) (ps : List Str) (sp : Sp) (f : Addr) (fd : FuncData) : Prop :=
  FnOk P w K mg base CX k f fd ps sp ∧ Binds K fd ps [] ∧ PySem.W.keepIn K (.ref f) = true ∧ mg x = some (.ref f)
def FU (F : Nat → List PyData → PyData → Prop) (m : Nat) (ds : List PyData) (d : PyData) : Prop := ∃ n, n ≤ m ∧ F n ds d
section
variable {P : Program} {w : World} {K : Frag} {mg : Str → Option Value} {base : Heap} {x q : Str} {st : Stmt} {f : Addr} {fd : FuncData} {N ps : List Str} {k j : Nat} {CX : CXT} {sp : Sp}
theorem HasF.has (h : HasF P w K mg base CX k x ps sp f fd) : Has P w K mg base CX k x ps sp := ⟨f, fd, h⟩
theorem HasF.union {F : Nat → List PyData → PyData → Prop} (m : Nat) (h : ∀ n, HasF P w K mg base CX (n + j) x ps (spD K (F n)) f fd) : Has P w K mg base CX (m + j) x ps (spD K (FU F m)) := by
  refine ⟨f, fd, ⟨fun vs H Q E z => ?_, fun A outer s H args us vs Q E hr e0 hb hv z => ?_⟩, (h 0).2⟩
  · obtain ⟨ds, d, H0, e, hd, ⟨n, _, hf⟩, hq⟩ := z
    exact (h n).1.len vs H Q E ⟨ds, d, H0, e, hd, hf, hq⟩
  · obtain ⟨ds, d, H0, e, hd, ⟨n, hn, hf⟩, hq⟩ := z
    exact (h n).1.run A outer s H args us vs Q E (hr.mono (by omega)) e0 hb hv ⟨ds, d, H0, e, hd, hf, hq⟩
theorem hasF_d {FF : List PyData → PyData → Prop} (F : FnP K x q st f fd) (g : mg x = some (.ref f)) (b : Binds K fd ps []) (S : FnScope N ps (defScope st)) (hl : ∀ ds d, FF ds d → ds.length = ps.length)
    (hbody : ∀ (cdv : Value) (A : Around) (outer : List Env) (s : Shared) (H : Hp) (vs : List V) (Q : VK) (E : XK) (ds : List PyData) (d : PyData) (H0 : Hp), Room k (A.deeper (envOfC q (defScope st) s.heap.objs.size f cdv)) →
      Ex H0 H → DtAll K H0 vs ds → FF ds d → (∀ v H2 Hd, Gr H0 H H2 Hd → Dt K Hd v d → Q v H2) →
      ∃ t, PSs (cxOf CX0 P w K mg base N q (defScope st) f cdv A outer s H E).nox (defBody st) t ∧ t { nx := fun _ H' => Q .non H', rt := Q } (start N vs) H) : HasF P w K mg base CX0 (k + 1) x ps (spD K FF) f fd := by
  refine ⟨F.ok S (fun vs H Q E h => ?_) (fun cdv A outer s H vs Q E hr h => ?_), b, F.kp, g⟩
  · obtain ⟨ds, d, H0, _, hd, hf, _⟩ := h
    rw [dpAll_len hd]
    exact hl ds d hf
  · obtain ⟨ds, d, H0, e, hd, hf, hq⟩ := h
    obtain ⟨t, ht, r⟩ := hbody cdv A outer s H vs Q E ds d H0 hr e hd hf hq
    exact ⟨t, PSs.nox ht, r⟩
end
end LC

namespace LC
open PySem PySem.Spec PyProof.Rows L2 Evl
section
variable {K : Frag} {σ : L2.St} {H : Hp} {ta : TA} {te : TE} {E : XK} {d : PyData}
theorem evd_callX {cB : Addr} {F : List PyData → Option PyData → Prop} {ds : List PyData} (h : EvDs K ta σ H ds) (hf : F ds (some d)) : EvD K (tCall (spDX K cB F) [] E ta) σ H d := fun H1 e Q q =>
  h H1 e _ fun vs H2 A g hd => ⟨ds, some d, A, g.d2, by rw [List.append_nil]; exact hd, hf, fun d' e' v H3 B g3 hv => q v H3 B (g.seq g3) (by cases e'; exact hv), fun z => by cases z⟩
theorem evd_cell {a : Addr} {ns : List Int} {k : Int} {ti : TE} (ha : Ev te σ H (.ref a)) (hk : Ev ti σ H (.int k)) (hS : SqL K H a (ns.map V.int)) (h0 : 0 ≤ k) (hl : ns.length ≤ 63) : EvD K (tCall (spLcell K) [] E (tCons te (tCons ti tNil))) σ H (.int (cellAt ns k)) :=
  evd_i fun H1 e Q q => ha H1 e _ fun H2 e2 => hk H2 (e.trans e2) _ fun H3 e3 => ⟨a, ns, k, rfl, ex_l ((e.trans e2).trans e3) hS, h0, hl, fun H4 e4 => q H4 ((e2.trans e3).trans e4)⟩
end
/-! shapes and equality of plain data -/
theorem shaped_of {d : PyData} (ok : okD d = true) (hd : d.depth ≤ 64) : SeqAt.shaped d = true := by
  have key : ∀ d : PyData, okD d = true → d.canLay0 = true := by
    intro d
    refine PyData.rec (motive_1 := fun d => okD d = true → d.canLay0 = true) (motive_2 := fun ds => okD.okAll ds = true → PyData.canLayAll0 ds = true) (motive_3 := fun _ => True) (motive_4 := fun _ => True) ?_ ?_ ?_ ?_ ?_ ?_ ?_ ?_ ?_ ?_ ?_ ?_ d
    · intro _; rfl
    · intro _ _; rfl
    · intro _ _; rfl
    · intro s h
      unfold okD at h
      unfold PyData.canLay0
      exact (Bool.and_eq_true_iff.mp h).2
    · intro ds ih h
      unfold okD at h
      unfold PyData.canLay0
      exact ih h
    · intro ds ih h
      unfold okD at h
      unfold PyData.canLay0
      exact ih h
    · intro _ _ h
      simp [okD] at h
    · intro _; rfl
    · intro d ds ih1 ih2 h
      unfold okD.okAll at h
      rw [Bool.and_eq_true] at h
      unfold PyData.canLayAll0
      rw [ih1 h.1, ih2 h.2] <;> rfl
    · trivial
    · intros; trivial
    · intros; trivial
  show (d.canLay0 && decide (d.depth ≤ 64)) = true
  rw [key d ok, decide_eq_true hd] <;> rfl
theorem depthAll_le : ∀ {ds : List PyData} {n : Nat}, (∀ d ∈ ds, d.depth ≤ n) → PyData.depthAll ds ≤ n
  | [], n, _ => by unfold PyData.depthAll; omega
  | d :: ds, n, h => by
    unfold PyData.depthAll
    have h1 := h d (List.mem_cons_self ..)
    have h2 := depthAll_le (ds := ds) (n := n) fun q hq => h q (List.mem_cons_of_mem _ hq)
    omega
theorem depth_list {ds : List PyData} {n : Nat} (h : ∀ d ∈ ds, d.depth ≤ n) : (PyData.list ds).depth ≤ n + 1 := by
  have := depthAll_le h
  unfold PyData.depth
  omega
theorem depth_tuple {ds : List PyData} {n : Nat} (h : ∀ d ∈ ds, d.depth ≤ n) : (PyData.tuple ds).depth ≤ n + 1 := by
  have := depthAll_le h
  unfold PyData.depth
  omega
theorem Sm.enc_depth : ∀ s : Sm, s.enc.depth ≤ s.depth
  | .num _ => by unfold Sm.enc PyData.depth; omega
  | .nm _ => by unfold Sm.enc PyData.depth; omega
  | .op w a b => by
    have h1 := Sm.enc_depth a
    have h2 := Sm.enc_depth b
    refine depth_tuple (n := max a.depth b.depth) fun d hd => ?_
    simp only [List.mem_cons, List.not_mem_nil, or_false] at hd
    rcases hd with rfl | rfl | rfl
    · unfold PyData.depth; omega
    · omega
    · omega
  | .ite a b c => by
    have h1 := Sm.enc_depth a
    have h2 := Sm.enc_depth b
    have h3 := Sm.enc_depth c
    refine depth_tuple (n := max a.depth (max b.depth c.depth)) fun d hd => ?_
    simp only [List.mem_cons, List.not_mem_nil, or_false] at hd
    rcases hd with rfl | rfl | rfl | rfl
    · unfold PyData.depth; omega
    · omega
    · omega
    · omega
theorem Rw.enc_depth {r : Rw} (h : r.good = true) : r.enc.depth ≤ 7 := by
  have g := Rw.good_sum h
  have hs := Sm.enc_depth r.sum
  cases r with
  | set x s =>
    refine depth_tuple (n := 6) fun d hd => ?_
    simp only [List.mem_cons, List.not_mem_nil, or_false] at hd
    rcases hd with rfl | rfl | rfl
    · unfold PyData.depth; omega
    · unfold PyData.depth; omega
    · exact Nat.le_trans hs g.2
  | shw s =>
    refine depth_tuple (n := 6) fun d hd => ?_
    simp only [List.mem_cons, List.not_mem_nil, or_false] at hd
    rcases hd with rfl | rfl
    · unfold PyData.depth; omega
    · exact Nat.le_trans hs g.2
theorem src_depth {src : Src} (h : goodS src = true) : (encS src).depth ≤ 8 := depth_tuple (n := 7) fun d hd => by
  obtain ⟨r, hr, rfl⟩ := List.mem_map.mp hd
  exact Rw.enc_depth (goodS_row h hr)
theorem src_shaped {src : Src} (h : goodS src = true) : SeqAt.shaped (encS src) = true := shaped_of (ok_src src h) (Nat.le_trans (src_depth h) (by decide))
theorem shaped_strs {l : List Str} (h : ∀ x ∈ l, nameS x = true) : SeqAt.shaped (.list (l.map PyData.str)) = true := by
  refine shaped_of (ok_lst_of fun d hd => ?_) (Nat.le_trans (depth_list (n := 0) fun d hd => ?_) (by decide))
  · obtain ⟨x, hx, rfl⟩ := List.mem_map.mp hd
    exact ok_of_name (h x hx)
  · obtain ⟨x, hx, rfl⟩ := List.mem_map.mp hd
    unfold PyData.depth
    omega
theorem names_good : ∀ (s : Sm), s.good = true → ∀ x ∈ s.names, nameS x = true
  | .num _, _, x, hx => by cases hx
  | .nm y, h, x, hx => by
    have e : x = y := by simpa [Sm.names] using hx
    rw [e]
    exact h
  | .op w a b, h, x, hx => by
    have h : (decide (w ∈ wordsS) && (a.good && b.good)) = true := h
    simp only [Bool.and_eq_true] at h
    have hx : x ∈ a.names ++ b.names := hx
    rcases List.mem_append.mp hx with q | q
    · exact names_good a h.2.1 x q
    · exact names_good b h.2.2 x q
  | .ite a b c, h, x, hx => by
    have h : (a.good && (b.good && c.good)) = true := h
    simp only [Bool.and_eq_true] at h
    have hx : x ∈ a.names ++ (b.names ++ c.names) := hx
    rcases List.mem_append.mp hx with q | q
    · exact names_good a h.1 x q
    · rcases List.mem_append.mp q with q | q
      · exact names_good b h.2.1 x q
      · exact names_good c h.2.2 x q
theorem addName_mem {ms f : List Str} {x y : Str} (h : y ∈ addName ms f x) : y ∈ f ∨ y = x := by
  unfold addName at h
  split at h
  · exact .inl h
  · rcases List.mem_append.mp h with q | q
    · exact .inl q
    · exact .inr (by simpa using q)
theorem foldl_addName_mem (ms : List Str) : ∀ (l f : List Str) (y : Str), y ∈ l.foldl (addName ms) f → y ∈ f ∨ y ∈ l
  | [], f, y, h => .inl h
  | x :: l, f, y, h => by
    rcases foldl_addName_mem ms l (addName ms f x) y h with q | q
    · rcases addName_mem q with q | q
      · exact .inl q
      · exact .inr (by rw [q]; exact List.mem_cons_self ..)
    · exact .inr (List.mem_cons_of_mem _ q)
theorem reads_good (src : Src) (h : ∀ r ∈ src, r.good = true) : ∀ acc : List Str × List Str, (∀ x ∈ acc.1, nameS x = true) → ∀ x ∈ (src.foldl readsGo acc).1, nameS x = true := by
  induction src with
  | nil => intro acc ha; exact ha
  | cons r src ih =>
    intro acc ha
    refine ih (fun q hq => h q (List.mem_cons_of_mem _ hq)) (readsGo acc r) fun x hx => ?_
    rw [readsGo_eq] at hx
    rcases foldl_addName_mem acc.2 _ _ x hx with q | q
    · exact ha x q
    · exact names_good _ (Rw.good_sum (h r (List.mem_cons_self ..))).1 x q
theorem readsOf_good {src : Src} (h : goodS src = true) : ∀ x ∈ readsOf src, nameS x = true := reads_good src (fun r hr => goodS_row h hr) ([], []) fun x hx => by cases hx
theorem mine_eq (src : Src) : ∀ acc : List Str × List Str, (src.foldl readsGo acc).2 = acc.2 ++ setsOf src := by
  induction src with
  | nil => intro acc; simp [setsOf]
  | cons r src ih =>
    intro acc
    rw [List.foldl_cons, ih (readsGo acc r), readsGo_eq]
    simp [setsOf]
theorem setsOf_good {src : Src} (h : goodS src = true) : ∀ x ∈ setsOf src, nameS x = true := fun x hx => by
  obtain ⟨r, hr, hx⟩ := List.mem_flatMap.mp hx
  have g := goodS_row h hr
  cases r with
  | set y s =>
    have e : x = y := by simpa [Rw.sets] using hx
    have g : (nameS y && (s.good && decide (s.depth ≤ 6))) = true := g
    rw [Bool.and_eq_true] at g
    rw [e]
    exact g.1
  | shw s => cases hx
theorem sortU_mem {x : Str} {xs : List Str} : x ∈ sortU xs ↔ x ∈ xs := by
  unfold sortU
  rw [(List.mergeSort_perm _ _).mem_iff, mem_nub]
def spLaw (K : Frag) : Sp := fun vs H Q _ => ∃ (a : Addr) (ns : List Int), vs = [.ref a] ∧ SqL K H a (ns.map V.int) ∧ ns.length ≤ 63 ∧ ∀ H', Q (.bl true) H'
def isShowD : PyData → Bool
  | .tuple (.str w :: _) => w == "show"
  | _ => false
def Rw.isShw : Rw → Bool
  | .shw _ => true
  | .set _ _ => false
theorem isShowD_enc (r : Rw) : isShowD r.enc = r.isShw := by
  cases r with
  | set x s =>
    show (("set" : Str) == "show") = false
    decide +kernel
  | shw s => rfl
theorem shows_data (src : Src) : ((src.map Rw.enc).filter isShowD).map id = (src.filter Rw.isShw).map Rw.enc := by
  rw [List.map_id, List.filter_map]
  congr 1
  refine List.filter_congr fun r _ => ?_
  exact isShowD_enc r
theorem shows_good {src : Src} (h : goodS src = true) : goodS (src.filter Rw.isShw) = true := by
  unfold goodS at h ⊢
  simp only [Bool.and_eq_true, decide_eq_true_eq, List.all_eq_true] at h ⊢
  exact ⟨Nat.le_trans (List.length_filter_le _ _) h.1, fun r hr => h.2 r (List.mem_filter.mp hr).1⟩
theorem shows_sets (src : Src) : setsOf (src.filter Rw.isShw) = [] := by
  unfold setsOf
  rw [List.flatMap_eq_nil_iff]
  intro r hr
  have h := (List.mem_filter.mp hr).2
  cases r with
  | set x s => cases h
  | shw s => rfl
theorem ev_isShow {K : Frag} {σ : L2.St} {H : Hp} {te : TE} {r : Rw} (h : EvD K te σ H r.enc) : Ev (tOp (rEqD K) (tOp (rIx K) te (tC (.int 0))) (tC (.str "show"))) σ H (.bl (isShowD r.enc)) := by
  cases r with
  | set x s => exact ev_is (ev_eq (evd_ixT (d := .str "set") h evd_int (atI_0 _ _)) evd_str (by decide +kernel) (by decide +kernel)) rfl
  | shw s => exact ev_is (ev_eq (evd_ixT (d := .str "show") h evd_int (atI_0 _ _)) evd_str (by decide +kernel) (by decide +kernel)) rfl
end LC

namespace LC
open PySem PySem.Spec PyProof.Rows L2 Evl
section
variable {P : Program} {w : World} {K : Frag} {mg : Str → Option Value} {base : Heap} {x q : Str} {st : Stmt} {f : Addr} {fd : FuncData} {N ps : List Str} {k : Nat} {sp : Sp}
theorem hasF_p (F : FnP K x q st f fd) (g : mg x = some (.ref f)) (b : Binds K fd ps []) (S : FnScope N ps (defScope st)) (len : ∀ vs H Q E, sp vs H Q E → vs.length = ps.length)
    (hbody : ∀ (cdv : Value) (A : Around) (outer : List Env) (s : Shared) (H : Hp) (vs : List V) (Q : VK) (E : XK), Room k (A.deeper (envOfC q (defScope st) s.heap.objs.size f cdv)) → sp vs H Q E →
      ∃ t, PSs (cxOf CX0 P w K mg base N q (defScope st) f cdv A outer s H E).nox (defBody st) t ∧ t { nx := fun _ H' => Q .non H', rt := Q } (start N vs) H) : HasF P w K mg base CX0 (k + 1) x ps sp f fd :=
  ⟨F.ok S len (fun cdv A outer s H vs Q E hr h => by
    obtain ⟨t, ht, r⟩ := hbody cdv A outer s H vs Q E hr h
    exact ⟨t, PSs.nox ht, r⟩), b, F.kp, g⟩
end
theorem map_strs (K : Frag) (xs : List Str) : (xs.map He.Dv.str).map (He.Dv.v K) = xs.map V.str := by rw [List.map_map] <;> rfl
theorem tup_strs {K : Frag} {x : Str} (xs : List Str) (h : He.tupB K x (xs.map He.Dv.str) = true) (H : Hp) : Dt K H (.ref (He.ga K x)) (.tuple (xs.map PyData.str)) := by
  refine .tup (xs := xs.map V.str) ?_ (dt_strs xs)
  rw [← map_strs K]
  exact He.tupB_ok h H
end LC

namespace LC
open PySem PySem.Spec PyProof.Rows L2 Evl
/-! ### a def that may raise, called in a try -/
section
variable {X : Cx} {CX : CXT} {k j : Nat} {x : Str} {ps : List Str} {sp : Sp} {E : L2.St → XK} {p pos : Pos} {e : Expr} {es : List Expr} {t : TA}
theorem pe_hasS (F : Has X.prog X.w X.K X.mg X.base CX k x ps sp) (hr : Room j X.A) (hk : k ≤ j) (hg : Gl X x) (hx : ∀ σ, PassesAt CX X σ (E σ)) (ha : PA X (e :: es) t) (hdb : (x == ("__debug__" : Str)) = false := by decide)
    (he : starEach (e :: es) X.env = (false, eval e X.env) :: starEach es X.env := by rfl) (hpl : (backTo pos (starEach es X.env)).any (·.1) = false := by rfl) : PE X (.Call (.Name x p) (e :: es) [] pos) (tCallS sp E t) := by
  obtain ⟨f, fd, G, b, kp, m⟩ := F
  exact pe_callS G (hr.mono hk) hg m kp b hx ha hdb he hpl
end
section
variable {K : Frag} {σ : L2.St} {H H0 H1 H' : Hp} {ta tb tc te : TE} {D : Ends} {d : PyData}
theorem ev_notIs {a b : Bool} (ha : EvD K ta σ H (.bool a)) (hb : EvD K tb σ H (.bool b)) : Ev (tOp rNotB ta tb) σ H (.bl (!decide (a = b))) := ev_opd ha hb fun x y H1 hx hy Q q => ⟨a, b, dp_bool hx, dp_bool hy, q⟩
theorem ev_isB {a b : Bool} (ha : EvD K ta σ H (.bool a)) (hb : EvD K tb σ H (.bool b)) : Ev (tOp rIsB ta tb) σ H (.bl (decide (a = b))) := ev_opd ha hb fun x y H1 hx hy Q q => ⟨a, b, dp_bool hx, dp_bool hy, q⟩
abbrev rLeS : R2 := fun x y H Q => ∃ i j, x = .str i ∧ y = .str j ∧ Q (.bl (!decide (j.cps.toList < i.cps.toList))) H
theorem kLeS {X : Cx} : OpR X (compareOp .LtE) rLeS := op_le_str
theorem ev_chainS {i j k : Str} (ha : EvD K ta σ H (.str i)) (hb : EvD K tb σ H (.str j)) (hc : EvD K tc σ H (.str k)) :
    Ev (tChain rLeS rLeS ta tb tc) σ H (.bl (!decide (j.cps.toList < i.cps.toList) && !decide (k.cps.toList < j.cps.toList))) := fun H1 e Q hq =>
  ev_str ha H1 e _ fun H2 e2 => ev_str hb H2 (e.trans e2) _ fun H3 e3 => ⟨i, j, rfl, rfl, _, rfl, by
    cases hp : !decide (j.cps.toList < i.cps.toList) with
    | true =>
      show tc σ H3 _
      refine ev_str hc H3 ((e.trans e2).trans e3) _ fun H4 e4 => ⟨j, k, rfl, rfl, ?_⟩
      have := hq H4 ((e2.trans e3).trans e4)
      rw [hp] at this
      exact this
    | false =>
      show Q (.bl false) H3
      have := hq H3 (e2.trans e3)
      rw [hp] at this
      exact this⟩
theorem Rt.retB {b : Bool} (k : Rt K H0 H (.bool b) D.rt) (x : Ex H0 H) (e : Ex H H1) (h : EvD K te σ H1 d) (hd : d = .bool b) : tRet te D σ H1 := by
  subst hd
  exact h H1 (Ex.refl _) _ fun v H2 Hd g hd => k v H2 H0 (Gr.base x (e.trans g.ex)) (by rw [dp_bool hd]; exact .bl b)
end
/-! ### the law's own words of a source -/
def sizesK : List (Key × V) := [(.inr "add", .int 3), (.inr "less", .int 3), (.inr "times", .int 3), (.inr "over", .int 3), (.inr "same", .int 3), (.inr "if", .int 4)]
abbrev sizesT : List (TE × TE) := [(tC (.str "add"), tC (.int 3)), (tC (.str "less"), tC (.int 3)), (tC (.str "times"), tC (.int 3)), (tC (.str "over"), tC (.int 3)), (tC (.str "same"), tC (.int 3)), (tC (.str "if"), tC (.int 4))]
theorem sizesK_merge : mergeK [] sizesK = sizesK := by decide +kernel
theorem s_sizes {D : Ends} {σ : L2.St} {H : Hp} {i : Nat} (k : ∀ p H1, Ex H H1 → H1 p = some (.dK sizesK) → D.nx (σ.set i (some (.ref p))) H1) : tAsg (tDisp sizesT) (gName i) D σ H := by
  intro p hp
  refine ⟨upd_same, sizesK, rfl, by decide, ?_⟩
  rw [sizesK_merge]
  exact k p _ (ex_upd (ex_upd (Ex.refl H) hp) hp) upd_same
def sizeOf (w : Str) : Int := if w ∈ wordsS then 3 else if w = "if" then 4 else 0
theorem sizes_val (w : Str) : (valV sizesK (.inr w)).getD (.int 0) = .int (sizeOf w) := by
  have key : ∀ z : Str, z = w ∨ ¬ z = w := fun z => Classical.em _
  unfold sizeOf wordsS
  by_cases h1 : w = "add"
  · subst h1; decide +kernel
  by_cases h2 : w = "less"
  · subst h2; decide +kernel
  by_cases h3 : w = "times"
  · subst h3; decide +kernel
  by_cases h4 : w = "over"
  · subst h4; decide +kernel
  by_cases h5 : w = "same"
  · subst h5; decide +kernel
  by_cases h6 : w = "if"
  · subst h6; decide +kernel
  have e : valV sizesK (.inr w) = none := by
    unfold sizesK
    rw [valV_neg, valV_neg, valV_neg, valV_neg, valV_neg, valV_neg]
    · rfl
    all_goals
      intro z
      have z := Sum.inr.inj z
      simp_all
  rw [e]
  simp [h1, h2, h3, h4, h5, h6]
theorem size_head (w : Str) (n : Nat) : (((n + 1 : Nat) : Int) == sizeOf w) = sumHead w (n + 1) := by
  unfold sizeOf sumHead
  by_cases h1 : w ∈ wordsS
  · have h2 : ¬ w = "if" := fun z => noIf (z ▸ h1)
    rw [if_pos h1, decide_eq_true h1, decide_eq_false h2, Bool.eq_iff_iff]
    simp
    omega
  · rw [if_neg h1, decide_eq_false h1]
    by_cases h2 : w = "if"
    · rw [if_pos h2, decide_eq_true h2, Bool.eq_iff_iff]
      simp
      omega
    · rw [if_neg h2, decide_eq_false h2, Bool.eq_iff_iff]
      simp
      omega
section
variable {K : Frag} {σ : L2.St} {H : Hp} {ty : TE} {w : Str} {i : Nat} {p : Addr}
theorem ev_sizeGet (hs : σ[i]? = some (some (.ref p))) (hp : H p = some (.dK sizesK)) (hw : EvD K ty σ H (.str w)) : Ev (tDGet2 (tVar i) ty (tC (.int 0))) σ H (.int (sizeOf w)) := fun H1 e Q q => by
  refine ⟨.ref p, hs, p, rfl, .inl ⟨_, .inl (e _ _ hp)⟩, ?_⟩
  refine hw H1 e _ fun v H2 Hd g hd => ?_
  rw [dp_str hd]
  have h2 : H2 p = some (.dK sizesK) := g.ex _ _ (e _ _ hp)
  refine ⟨_, DGet.k (k := .inr w) h2, ?_⟩
  rw [sizes_val]
  exact q H2 g.ex
end
/-- signs of a to z -/
theorem small_le (c : Nat) : (!decide ((⟨#[c]⟩ : Str).cps.toList < ("a" : Str).cps.toList) && !decide (("z" : Str).cps.toList < (⟨#[c]⟩ : Str).cps.toList)) = decide (c ∈ smallS.cps.toList) := by
  have ea : ("a" : Str).cps.toList = [97] := by decide +kernel
  have ez : ("z" : Str).cps.toList = [122] := by decide +kernel
  have es : smallS.cps.toList = (List.range 26).map (· + 97) := by decide +kernel
  rw [ea, ez, es]
  show (!decide ([c] < [97]) && !decide ([122] < [c])) = _
  rw [Bool.eq_iff_iff]
  simp only [Bool.and_eq_true, Bool.not_eq_true', decide_eq_false_iff_not, decide_eq_true_eq, List.mem_map, List.mem_range]
  have l1 : ([c] < [97]) ↔ c < 97 := by simp [List.cons_lt_cons_iff]
  have l2 : ([122] < [c]) ↔ 122 < c := by simp [List.cons_lt_cons_iff]
  rw [l1, l2]
  constructor
  · intro h
    exact ⟨c - 97, by omega, by omega⟩
  · rintro ⟨a, ha, rfl⟩
    omega
def barred7 : List Str := ["add", "less", "over", "same", "if", "set", "show"]
theorem name7 (z : Str) (hl : z.length ≤ 4) : decide (z ∈ barred7) = decide (z ∈ barredS) := by
  have ht : ("times" : Str).length = 5 := by decide +kernel
  have hn : ¬ z = "times" := fun e => by rw [e, ht] at hl; omega
  unfold barred7 barredS
  rw [Bool.eq_iff_iff]
  simp [hn]
def F_kname (ds : List PyData) (d : PyData) : Prop := ∃ z : Str, ds = [.str z] ∧ okD (.str z) = true ∧ d = .bool (nameS z)
def F_ksum (n : Nat) (ds : List PyData) (d : PyData) : Prop := ∃ x, ds = [x, .int (6 - (n : Int))] ∧ okD x = true ∧ x.depth ≤ 60 ∧ d = .bool (isSum n x)
def headOk : PyData → Bool
  | .tuple (h :: _) => flatD h
  | _ => true
def F_ksource (ds : List PyData) (d : PyData) : Prop := ∃ rs x, ds = [x] ∧ (x = .tuple rs ∨ (rs = [] ∧ isT x "tuple" = false)) ∧ okD x = true ∧ x.depth ≤ 60 ∧ (∀ r ∈ rs, headOk r = true) ∧ d = .bool (isSource x)
def F_none (ds : List PyData) (o : Option PyData) : Prop := ∃ d, ds = [d] ∧ okD d = true ∧ isSource d = false ∧ o = none
def F_kof (ds : List PyData) (o : Option PyData) : Prop := ∃ (i : Int) (d : PyData), ds = [.int i, d] ∧ okD d = true ∧ isSource d = false ∧ o = none
def Fnever (ds : List PyData) (d : PyData) : Prop := False
theorem eqv_nil (l : List PyData) : PyData.eqv (.list l) (.list []) = l.isEmpty := by cases l <;> rfl
theorem eqv_unit (l : List PyData) : PyData.eqv (.tuple l) (.tuple []) = l.isEmpty := by cases l <;> rfl
theorem depth_mem {ds : List PyData} {d : PyData} (h : d ∈ ds) : d.depth ≤ PyData.depthAll ds := by
  induction ds with
  | nil => cases h
  | cons e ds ih =>
    unfold PyData.depthAll
    rcases List.mem_cons.mp h with rfl | h
    · exact Nat.le_max_left _ _
    · exact Nat.le_trans (ih h) (Nat.le_max_right _ _)
theorem depth_tup {ds : List PyData} {d : PyData} {n : Nat} (h : (PyData.tuple ds).depth ≤ n) (hd : d ∈ ds) : d.depth ≤ n := by
  unfold PyData.depth at h
  have := depth_mem hd
  omega
end LC
namespace LC
open PySem PySem.Spec PyProof.Rows L2 Evl
section
variable {K : Frag} {σ : L2.St} {H H0 : Hp} {ta tb te : TE} {t : TT} {targs : TA} {D : Ends} {E : XK}
theorem dpAll_rep {vs : List V} {ds : List PyData} (h : DtAll K H vs ds) : ∀ n : Nat, DtAll K H (List.replicate n vs).flatten (List.replicate n ds).flatten
  | 0 => .nil
  | n + 1 => by
    rw [List.replicate_succ, List.replicate_succ, List.flatten_cons, List.flatten_cons]
    exact dpAll_app h (dpAll_rep h n)
theorem evd_mulT {ds : List PyData} {n : Int} (ha : EvD K ta σ H (.tuple ds)) (hb : EvD K tb σ H (.int n)) (h0 : ds ≠ []) (h2 : 2 ≤ n ∧ n ≤ 1000) (hl : ds.length ≤ 1000) : EvD K (tOp (rMulU K) ta tb) σ H (.tuple (List.replicate n.toNat ds).flatten) := evd_op ha hb fun x y H1 A e hx hy Q q => by
  obtain ⟨a, xs, rfl, hs, hall⟩ := dp_tup hx
  rw [dp_int hy]
  have hlen := dpAll_len hall
  refine .inr (.inr ⟨a, n, xs, rfl, rfl, ex_t e hs, ?_, h2.1, h2.2, by omega, fun p hp => q _ _ _ ((Gr.base (Ex.refl A |>.trans e) (Ex.refl H1)).new _ hp) (.tup (st_of upd_same) (dpAll_ex (Ex.new (fresh_back e hp)) _ _ (dpAll_rep hall _)))⟩)
  intro z
  rw [z] at hlen
  exact h0 (List.eq_nil_of_length_eq_zero hlen.symm)
theorem cut_take (ds : List PyData) (n : Nat) (h : n ≤ ds.length) : cutD ds none (some (n : Int)) = ds.take n := by
  have e : HT.sIx ds.length ds.length (some (n : Int)) = n := by
    rw [HT.sIx_nat]
    omega
  unfold cutD
  rw [e, HT.sIx_none]
  simp
theorem cut_drop (ds : List PyData) (n : Nat) (h : n ≤ ds.length) : cutD ds (some (n : Int)) none = ds.drop n := by
  have e : HT.sIx ds.length 0 (some (n : Int)) = n := by
    rw [HT.sIx_nat]
    omega
  unfold cutD
  rw [e, HT.sIx_none]
  rw [List.take_of_length_le]
  rw [List.length_drop]
  omega
/-- an if that is not taken, with nothing behind else -/
theorem s_skip {tu : TS} (h : EvT t σ H0 false) (x : Ex H0 H) (k : ∀ H1, Ex H H1 → D.nx σ H1) : tIfS t tu tNext D σ H := s_ifD h x (fun z => nomatch z) fun _ => k
/-- a call that is refused -/
theorem x_call {cB : Addr} {F : List PyData → Option PyData → Prop} {ds : List PyData} {Q : VK} (h : EvDs K targs σ H0 ds) (x : Ex H0 H) (hf : F ds none) (k : ∀ H1, Ex H H1 → E (.ref cB) none H1) : tCall (spDX K cB F) [] E targs σ H Q :=
  h H x _ fun vs H2 A g hd => ⟨ds, none, A, g.d2, by rw [List.append_nil]; exact hd, hf, fun d e => (nomatch e), fun e H3 e3 => k H3 (g.ex.trans e3)⟩
theorem x_if {b : Bool} {Q : VK} (h : EvT t σ H0 b) (x : Ex H0 H) (k1 : b = true → ∀ H1, Ex H H1 → ta σ H1 Q) (k2 : b = false → ∀ H1, Ex H H1 → tb σ H1 Q) : tIf t ta tb σ H Q := h H x _ fun H2 e2 => by
  cases b with
  | true => exact k1 rfl H2 e2
  | false => exact k2 rfl H2 e2
/-- .. in a try -/
theorem s_tryX {cB : Addr} {F : List PyData → Option PyData → Prop} {ds : List PyData} {ES : L2.St → XK} (h : EvDs K targs σ H0 ds) (x : Ex H0 H) (hf : F ds none) (k : ∀ H1, Ex H H1 → ES σ (.ref cB) none H1) : tDrop (tCallS (spDX K cB F) ES targs) D σ H :=
  h H x _ fun vs H2 A g hd => ⟨ds, none, A, g.d2, hd, hf, fun d e => (nomatch e), fun e H3 e3 => k H3 (g.ex.trans e3)⟩
end
/-! the law's spoilt rows -/
def deepD : Nat → PyData
  | 0 => .str "a"
  | n + 1 => .tuple [.str "add", deepD n, .int 1]
def odd1 : List PyData := [.none, .str "show", .tuple [], .tuple [.str "show"], .tuple [.str "show", .int 1, .int 2], .tuple [.str "set", .str "a"], .tuple [.str "set", .str "if", .int 1], .tuple [.str "set", .str "A", .int 1]]
def odd2 : List PyData := [.tuple [.str "set", .str "abcde", .int 1], .tuple [.str "put", .int 1], .list [.str "show", .int 1], .tuple [.int 1, .int 2], .tuple [.str "show", .int (-1)], .tuple [.str "show", .int 10000], .tuple [.str "show", .bool true]]
def odd3 : List PyData := [.tuple [.str "show", .str "show"], .tuple [.str "show", .tuple [.str "plus", .int 1, .int 2]], .tuple [.str "show", .tuple [.str "add", .int 1]], .tuple [.str "show", .tuple [.str "if", .int 1, .int 2]]]
def odd4 : List PyData := [.tuple [.str "show", .list [.str "add", .int 1, .int 2]], .tuple [.str "show", .tuple []]]
def odd5 : List PyData := [.tuple [.str "show", deepD 7], .tuple [.str "show", .none], .tuple [.str "set", .str "", .int 1]]
def oddD : List PyData := (((odd1 ++ odd2) ++ odd3) ++ odd4) ++ odd5
def rowsOf : PyData → List PyData
  | .tuple ds => ds
  | _ => []
def badOk (d : PyData) : Bool := okD d && (decide (d.depth ≤ 50) && (!isRow d && (headOk d && (rowsOf d).all headOk)))
theorem odd_ok : oddD.all badOk = true := by decide +kernel
theorem deep_ok : isSource (.tuple (List.replicate 8 [PyData.tuple [.str "show", deepD 6]]).flatten) = true := by decide +kernel
theorem odd_len : oddD.length = 24 := by decide +kernel
def badsD (src : Src) (bad : PyData) (k : Nat) : List PyData := [.tuple ((src.map Rw.enc).take k ++ [bad] ++ (src.map Rw.enc).drop k), .list (src.map Rw.enc), bad, .tuple (List.replicate 9 [PyData.tuple [.str "show", .int 1]]).flatten]
theorem badOk_iff {d : PyData} (h : badOk d = true) : okD d = true ∧ d.depth ≤ 50 ∧ isRow d = false ∧ headOk d = true ∧ (rowsOf d).all headOk = true := by
  unfold badOk at h
  simp only [Bool.and_eq_true, decide_eq_true_eq, Bool.not_eq_true'] at h
  exact h
theorem enc_head (r : Rw) : headOk r.enc = true := by cases r <;> rfl
theorem mem_spoilt {src : Src} {bad d : PyData} {k : Nat} (h : d ∈ (src.map Rw.enc).take k ++ [bad] ++ (src.map Rw.enc).drop k) : d = bad ∨ ∃ r ∈ src, d = r.enc := by
  simp only [List.mem_append, List.mem_singleton] at h
  rcases h with (h | h) | h
  · obtain ⟨r, hr, e⟩ := List.mem_map.mp (List.mem_of_mem_take h)
    exact .inr ⟨r, hr, e.symm⟩
  · exact .inl h
  · obtain ⟨r, hr, e⟩ := List.mem_map.mp (List.mem_of_mem_drop h)
    exact .inr ⟨r, hr, e.symm⟩
theorem bads_ok {src : Src} (hg : goodS src = true) {bad : PyData} (hb : badOk bad = true) (k : Nat) : ∀ d ∈ badsD src bad k, okD d = true ∧ d.depth ≤ 60 ∧ ∃ rs, (d = .tuple rs ∨ (rs = [] ∧ isT d "tuple" = false)) ∧ ∀ r ∈ rs, headOk r = true := by
  obtain ⟨b1, b2, b3, b4, b5⟩ := badOk_iff hb
  intro d hd
  unfold badsD at hd
  simp only [List.mem_cons, List.not_mem_nil, or_false] at hd
  rcases hd with rfl | rfl | rfl | rfl
  · refine ⟨ok_tup_of fun d hd => ?_, Nat.le_trans (depth_tuple (n := 50) fun d hd => ?_) (by decide), _, .inl rfl, fun d hd => ?_⟩
    · rcases mem_spoilt hd with rfl | ⟨r, hr, rfl⟩
      · exact b1
      · exact ok_row r (goodS_row hg hr)
    · rcases mem_spoilt hd with rfl | ⟨r, hr, rfl⟩
      · exact b2
      · exact Nat.le_trans (Rw.enc_depth (goodS_row hg hr)) (by decide)
    · rcases mem_spoilt hd with rfl | ⟨r, hr, rfl⟩
      · exact b4
      · exact enc_head r
  · refine ⟨ok_lst_of fun d hd => ?_, Nat.le_trans (depth_list (n := 50) fun d hd => ?_) (by decide), [], .inr ⟨rfl, rfl⟩, fun d hd => (nomatch hd)⟩
    · obtain ⟨r, hr, rfl⟩ := List.mem_map.mp hd
      exact ok_row r (goodS_row hg hr)
    · obtain ⟨r, hr, rfl⟩ := List.mem_map.mp hd
      exact Nat.le_trans (Rw.enc_depth (goodS_row hg hr)) (by decide)
  · refine ⟨b1, Nat.le_trans b2 (by decide), ?_⟩
    cases hT : isT d "tuple" with
    | false => exact ⟨[], .inr ⟨rfl, rfl⟩, fun d hd => (nomatch hd)⟩
    | true =>
      obtain ⟨ds, rfl⟩ := isT_tup hT
      exact ⟨ds, .inl rfl, fun r hr => List.all_eq_true.mp b5 r hr⟩
  · refine ⟨by decide +kernel, by decide +kernel, _, .inl rfl, fun r hr => ?_⟩
    have : (List.replicate 9 [PyData.tuple [.str "show", .int 1]]).flatten.all headOk = true := by decide +kernel
    exact List.all_eq_true.mp this r hr
theorem bads_no {src : Src} {bad : PyData} (hb : badOk bad = true) (k : Nat) : ∀ d ∈ badsD src bad k, d = bad ∨ isSource d = false := by
  obtain ⟨b1, b2, b3, b4, b5⟩ := badOk_iff hb
  intro d hd
  unfold badsD at hd
  simp only [List.mem_cons, List.not_mem_nil, or_false] at hd
  rcases hd with rfl | rfl | rfl | rfl
  · right
    show (decide (_ ≤ 8) && _) = false
    rw [Bool.and_eq_false_iff]
    right
    rw [List.all_eq_false]
    exact ⟨bad, by simp, by rw [b3]; simp⟩
  · exact .inr rfl
  · exact .inl rfl
  · right
    decide +kernel
theorem bads_at {src : Src} {bad : PyData} (hb : badOk bad = true) (k : Nat) (i : Nat) (h : i = 0 ∨ i = 1 ∨ i = 3) : ∃ d, (badsD src bad k)[i]? = some d ∧ isSource d = false := by
  obtain ⟨b1, b2, b3, b4, b5⟩ := badOk_iff hb
  rcases h with rfl | rfl | rfl
  · refine ⟨_, rfl, ?_⟩
    show (decide (_ ≤ 8) && _) = false
    rw [Bool.and_eq_false_iff]
    right
    rw [List.all_eq_false]
    exact ⟨bad, by simp, by rw [b3]; simp⟩
  · exact ⟨_, rfl, rfl⟩
  · exact ⟨_, rfl, by decide +kernel⟩
end LC
/-! The text by places: printed by gen.py -/
namespace K02
open PySem PySem.Spec PyProof.Rows L2
def top (i : Nat) : Stmt := PySem.Challenge.pw_leancells_k02_sources.main.body.getD i (.Pass ⟨0, 0, 0, 0⟩)
abbrev s_is_within : Stmt := top 10
abbrev s_is_name : Stmt := top 11
abbrev s_is_sum : Stmt := top 12
abbrev s_is_row : Stmt := top 13
abbrev s_is_source : Stmt := top 14
abbrev s_look : Stmt := top 15
abbrev s_names_in : Stmt := top 16
abbrev s_sets_of : Stmt := top 17
abbrev s_reads_of : Stmt := top 18
abbrev s_sets : Stmt := top 19
abbrev s_reads : Stmt := top 20
abbrev s_words_of : Stmt := top 21
abbrev s_text_of : Stmt := top 22
abbrev s_shown : Stmt := top 23
abbrev s_law_cell : Stmt := top 25
abbrev s_law_seed : Stmt := top 26
abbrev s_law_pick : Stmt := top 27
abbrev s_law_sum : Stmt := top 28
abbrev s_law_source : Stmt := top 29
abbrev s_law_is_source : Stmt := top 30
abbrev s_law_is_name : Stmt := top 31
abbrev s_law_is_sum : Stmt := top 32
abbrev s_law_of_source : Stmt := top 33
abbrev s_law : Stmt := top 34
/-! The head: facts by names, the run of the top -/
def d_is_within : He.DefD := ⟨("is_within", none), "is_within", "is_within", defArgs s_is_within, defBody s_is_within, defScope s_is_within, [], []⟩
def d_is_name : He.DefD := ⟨("is_name", none), "is_name", "is_name", defArgs s_is_name, defBody s_is_name, defScope s_is_name, [], []⟩
def d_is_sum : He.DefD := ⟨("is_sum", none), "is_sum", "is_sum", defArgs s_is_sum, defBody s_is_sum, defScope s_is_sum, [], []⟩
def d_is_row : He.DefD := ⟨("is_row", none), "is_row", "is_row", defArgs s_is_row, defBody s_is_row, defScope s_is_row, [], []⟩
def d_is_source : He.DefD := ⟨("is_source", none), "is_source", "is_source", defArgs s_is_source, defBody s_is_source, defScope s_is_source, [], []⟩
def d_look : He.DefD := ⟨("look", none), "look", "look", defArgs s_look, defBody s_look, defScope s_look, [], []⟩
def d_names_in : He.DefD := ⟨("names_in", none), "names_in", "names_in", defArgs s_names_in, defBody s_names_in, defScope s_names_in, [], []⟩
def d_sets_of : He.DefD := ⟨("sets_of", none), "sets_of", "sets_of", defArgs s_sets_of, defBody s_sets_of, defScope s_sets_of, [], []⟩
def d_reads_of : He.DefD := ⟨("reads_of", none), "reads_of", "reads_of", defArgs s_reads_of, defBody s_reads_of, defScope s_reads_of, [], []⟩
def d_sets : He.DefD := ⟨("sets", none), "sets", "sets", defArgs s_sets, defBody s_sets, defScope s_sets, [], []⟩
def d_reads : He.DefD := ⟨("reads", none), "reads", "reads", defArgs s_reads, defBody s_reads, defScope s_reads, [], []⟩
def d_words_of : He.DefD := ⟨("words_of", none), "words_of", "words_of", defArgs s_words_of, defBody s_words_of, defScope s_words_of, [], []⟩
def d_text_of : He.DefD := ⟨("text_of", none), "text_of", "text_of", defArgs s_text_of, defBody s_text_of, defScope s_text_of, [], []⟩
def d_shown : He.DefD := ⟨("shown", none), "shown", "shown", defArgs s_shown, defBody s_shown, defScope s_shown, [], []⟩
def d_law_cell : He.DefD := ⟨("_law_cell", none), "_law_cell", "_law_cell", defArgs s_law_cell, defBody s_law_cell, defScope s_law_cell, [], []⟩
def d_law_seed : He.DefD := ⟨("_law_seed", none), "_law_seed", "_law_seed", defArgs s_law_seed, defBody s_law_seed, defScope s_law_seed, [], []⟩
def d_law_pick : He.DefD := ⟨("_law_pick", none), "_law_pick", "_law_pick", defArgs s_law_pick, defBody s_law_pick, defScope s_law_pick, [], []⟩
def d_law_sum : He.DefD := ⟨("_law_sum", none), "_law_sum", "_law_sum", defArgs s_law_sum, defBody s_law_sum, defScope s_law_sum, [], []⟩
def d_law_source : He.DefD := ⟨("_law_source", none), "_law_source", "_law_source", defArgs s_law_source, defBody s_law_source, defScope s_law_source, [], []⟩
def d_law_is_source : He.DefD := ⟨("_law_is_source", none), "_law_is_source", "_law_is_source", defArgs s_law_is_source, defBody s_law_is_source, defScope s_law_is_source, [], []⟩
def d_law_is_name : He.DefD := ⟨("_law_is_name", none), "_law_is_name", "_law_is_name", defArgs s_law_is_name, defBody s_law_is_name, defScope s_law_is_name, [], []⟩
def d_law_is_sum : He.DefD := ⟨("_law_is_sum", none), "_law_is_sum", "_law_is_sum", defArgs s_law_is_sum, defBody s_law_is_sum, defScope s_law_is_sum, [], []⟩
def d_law_of_source : He.DefD := ⟨("_law_of_source", none), "_law_of_source", "_law_of_source", defArgs s_law_of_source, defBody s_law_of_source, defScope s_law_of_source, [], []⟩
def d_law : He.DefD := ⟨("law", none), "law", "law", defArgs s_law, defBody s_law, defScope s_law, [], []⟩
def fnL : List He.DefD := [d_is_within, d_is_name, d_is_sum, d_is_row, d_is_source, d_look, d_names_in, d_sets_of, d_reads_of, d_sets, d_reads, d_words_of, d_text_of, d_shown, d_law_cell, d_law_seed, d_law_pick, d_law_sum, d_law_source, d_law_is_source, d_law_is_name, d_law_is_sum, d_law_of_source, d_law]
def faL : List He.Fa := [.glo "is_within", .glo "is_name", .glo "is_sum", .glo "is_row", .glo "is_source", .glo "look", .glo "names_in", .glo "sets_of", .glo "reads_of", .glo "sets", .glo "reads", .glo "words_of", .glo "text_of", .glo "shown", .glo "_law_cell", .glo "_law_seed", .glo "_law_pick", .glo "_law_sum", .glo "_law_source", .glo "_law_is_source", .glo "_law_is_name", .glo "_law_is_sum", .glo "_law_of_source", .glo "law", .glo "LeanError", .exc "LeanError", .glo "BadSource", .exc "BadSource", .str "__name__" "law_leancells_k02_sources", .str "SMALL" "abcdefghijklmnopqrstuvwxyz", .int "ROUND" 10000, .int "MOST_ROWS" 8, .int "MOST_DEEP" 6, .glo "WORDS", .glo "BARRED", .free "len", .free "isinstance", .free "range", .free "tuple", .free "sorted", .free "set", .free "int", .free "str", .free "bool", .free "list", .free "min", .free "zip", .free "enumerate", .free "dict", .free "ValueError", .exm "BadSource" "BadSource" true]
def exB (K : PySem.W.Frag) : Bool := He.tupB K "WORDS" [.str "add", .str "less", .str "times", .str "over", .str "same"] && He.tupB K "BARRED" [.str "add", .str "less", .str "times", .str "over", .str "same", .str "if", .str "set", .str "show"] && true
abbrev R : PySem.W.OpenRow := PySem.W.OpenLaw.row PySem.Challenge.rw_leancells_k02_sources
abbrev hk : PySem.W.Hook := He.hookX 7 faL fnL [] [] exB
def ob (s : PySem.W.SharedT) : He.AlX := He.obsX 7 faL fnL [] [] exB (HandSHeadRun.getT s)
theorem ob_eq (s : PySem.W.SharedT) : ob s = hk.obs s.abs := He.obsX_eq (HandSHeadRun.getT_eq s)
def loose0 : List PySem.Str := ["LeanError", "BadSource", "SMALL", "ROUND", "MOST_ROWS", "MOST_DEEP", "WORDS", "BARRED", "is_within", "is_name", "is_sum", "is_row", "is_source", "look", "names_in", "sets_of", "reads_of", "sets", "reads", "words_of", "text_of", "shown", "_law_cell", "_law_seed", "_law_pick", "_law_sum", "_law_source", "_law_is_source", "_law_is_name", "_law_is_sum"]
def loose1 : List PySem.Str := ["_law_of_source"]
def looseL : List PySem.Str := loose0 ++ loose1
theorem run (w : World) : HandSHeadRun.RunEq R (PySem.W.view R.prog [34]) hk ob 3000 looseL w := by
  intro os
  kernel_rfl
open LC Evl
section
variable {P : Program} {w : World} {K : PySem.W.Frag} {mg : Str → Option Value} {base : Heap}
theorem sc_is_within : FnScope ["thing", "low", "high"] ["thing", "low", "high"] (defScope s_is_within) := ⟨rfl, rfl, rfl, by decide +kernel, rfl, by decide +kernel, by decide +kernel⟩
theorem ok_is_within {f : Addr} {fd : FuncData} (F : FnP K "is_within" "is_within" s_is_within f fd) (g : mg "is_within" = some (.ref f)) (T : Tx mg)  : Has P w K mg base CX0 1 "is_within" ["thing", "low", "high"] (spD K F_is_within) := by
  have nd := (sc_is_within).nd
  refine has_d (FF := F_is_within) F g (F.bindsN fun _ _ _ _ _ _ us hl => match us, hl with | [_, _, _], _ => rfl) sc_is_within (by rintro _ _ ⟨_, _, _, rfl, _⟩; rfl) (fun cdv A outer s H vs Q E ds d H0 hr x hd hf k => ?_)
  obtain ⟨a, lo, hi, rfl, rfl⟩ := hf
  obtain ⟨v0, v1, v2, rfl, d0, d1, d2⟩ := dts3 hd
  refine ⟨_, (pss_one (ps_ret (pe_and (pe_callB (kIsi (K := K) rfl) rfl (T.free (by decide)) boot_isinstance (pa_cons (pv 0) (pa_cons (pe_bltn (v := .ty "int") rfl (T.free (by decide)) boot_int rfl) pa_nil))) (pe_and (kNot (K := K) rfl (pe_callB (kIsi (K := K) rfl) rfl (T.free (by decide)) boot_isinstance (pa_cons (pv 0) (pa_cons (pe_bltn (v := .ty "bool") rfl (T.free (by decide)) boot_bool rfl) pa_nil)))) (pe_one (pe_chain op_le op_le (pv 1) (pv 0) (pv 2))))))), ?_⟩
  refine s_retD (d := .bool (isWithin a lo hi)) (evd_is (d := .bool (isT a "int" && (!isT a "bool" && isWithin a lo hi))) (evd_b (ev_andV (ev_isi (evd_var d0) (by decide)) fun e1 => ev_andV (ev_notB (ev_isi (evd_var d0) (by decide))) fun e2 => ?_)) (congrArg PyData.bool (within_eq a lo hi))) x k
  obtain ⟨i, rfl⟩ : ∃ i, a = .int i := by
    cases a <;> simp [isT, tyN] at e1 e2
    exact ⟨_, rfl⟩
  exact ev_chain (K := K) (p := fun i j => decide (i ≤ j)) (q := fun i j => decide (i ≤ j)) (evd_var d1) (evd_var d0) (evd_var d2)
theorem sc_is_name : FnScope ["thing", "sign"] ["thing"] (defScope s_is_name) := ⟨rfl, rfl, rfl, by decide +kernel, rfl, by decide +kernel, by decide +kernel⟩
theorem ok_is_name {f : Addr} {fd : FuncData} (F : FnP K "is_name" "is_name" s_is_name f fd) (g : mg "is_name" = some (.ref f)) (T : Tx mg) (m_SMALL : ∃ t, mg "SMALL" = some (.str smallS t)) {a_BARRED : Addr} (m_BARRED : mg "BARRED" = some (.ref a_BARRED)) (b_BARRED : ∀ H, Dt K H (.ref a_BARRED) (.tuple (barredS.map PyData.str))) : Has P w K mg base CX0 1 "is_name" ["thing"] (spD K F_is_name) := by
  have nd := (sc_is_name).nd
  refine has_d (FF := F_is_name) F g (F.bindsN fun _ _ _ _ _ _ us hl => match us, hl with | [_], _ => rfl) sc_is_name (by rintro _ _ ⟨_, rfl, _⟩; rfl) (fun cdv A outer s H vs Q E ds d H0 hr x hd hf k => ?_)
  obtain ⟨a, rfl, ok, rfl⟩ := hf
  obtain ⟨v0, rfl, d0⟩ := dts1 hd
  refine ⟨_, (pss_cons (ps_if (PW.pt (pw_or (pt_not (kTruth (K := K) rfl (pe_callB (kIsi (K := K) rfl) rfl (T.free (by decide)) boot_isinstance (pa_cons (pv 0) (pa_cons (pe_bltn (v := .ty "str") rfl (T.free (by decide)) boot_str rfl) pa_nil))))) (pw_or (pt_not (pt_chain op_le op_le pe_int (pe_callB (kLen (K := K) rfl) rfl (T.free (by decide)) boot_len (pa_cons (pv 0) pa_nil)) pe_int)) (pw_or1 (pt_cmpR (kIn (K := K) rfl) (pv 0) (pe_gref m_BARRED) rfl))))) (pss_one (ps_ret pe_bl)) pss_nil)
      (pss_one (ps_ret (kNot (K := K) rfl (pe_lc (own := [("sign", 1)]) rfl nd (kSeq (K := K) rfl (pv 0)) (blkOk_by (N := ["thing", "sign"]) (sc := defScope s_is_name) (own := [("sign", 1)]) (by decide +kernel)) (fun _ _ _ _ _ => (pg_name (i := 1) nd rfl (Or.inl rfl))) (fun _ _ _ _ _ => (pts_one (pt_cmpR (kNotIn (K := K) rfl) (pv 1) (pe_gstr m_SMALL) rfl))) (fun _ _ _ _ _ => (pv 1))))))), ?_⟩
  cases hT : isT a "str" with
  | false =>
    refine s_ifD (b := true) (et_or (a := true) (b := true) (et_not (a := false) (et_is (et_b (ev_isi (evd_var d0) (by decide))) hT)) fun z => nomatch z) x (fun _ H1 e1 => ?_) fun z => nomatch z
    refine s_retD (evd_is evd_bl ?_) (x.trans e1) fun v H2 Hd g => k v H2 Hd (g.after e1)
    cases a <;> first | rfl | simp [isT, tyN] at hT
  | true =>
    obtain ⟨z, rfl⟩ := isT_str hT
    have hz := ok_str ok
    have hB : ∀ H1, Dt K H1 (.ref a_BARRED) (.tuple (barredS.map PyData.str)) := fun H1 => b_BARRED H1
    refine s_ifD (b := !(decide ((1 : Int) ≤ (z.length : Int)) && decide ((z.length : Int) ≤ 4)) || decide (z ∈ barredS)) (et_or (a := false) (et_not (a := true) (et_is (et_b (ev_isi (evd_var d0) (by decide))) hT)) fun _ => et_or (et_not (et_chain (K := K) (p := fun i j => decide (i ≤ j)) (q := fun i j => decide (i ≤ j)) evd_int (evd_i (ev_lenS (evd_var d0) (sz_of hz))) evd_int))
      fun _ => et_is (et_test (ev_inT (neg := false) (evd_var d0) (evd_ref (hB _)) rfl (flat_strs _))) (by simp [inD_str])) x (fun hb H1 e1 => ?_) fun hb H1 e1 => ?_
    · refine s_retD (evd_is evd_bl ?_) (x.trans e1) fun v H2 Hd g => k v H2 Hd (g.after e1)
      refine congrArg PyData.bool (Eq.symm ?_)
      show nameS z = false
      unfold nameS
      rw [Bool.or_eq_true] at hb
      rcases hb with hb | hb
      · have q : (decide (1 ≤ z.length) && decide (z.length ≤ 4)) = false := by
          rw [Bool.not_eq_true', Bool.and_eq_false_iff] at hb
          rw [Bool.and_eq_false_iff]
          simp only [decide_eq_false_iff_not] at hb ⊢
          omega
        rw [q, Bool.false_and]
      · rw [hb]
        simp
    · rw [Bool.or_eq_false_iff, Bool.not_eq_false'] at hb
      have hl : (decide (1 ≤ z.length) && decide (z.length ≤ 4)) = true := by
        have := hb.1
        rw [Bool.and_eq_true] at this ⊢
        simp only [decide_eq_true_eq] at this ⊢
        omega
      have hl4 : z.length ≤ 4 := by
        rw [Bool.and_eq_true] at hl
        exact of_decide_eq_true hl.2
      refine s_retD (d := .bool (nameS z)) (evd_is (evd_b (ev_notD (evd_lcS (fun c => !decide (c ∈ smallS.cps.toList)) (fun c => .str ⟨#[c]⟩) (evd_var d0) (by omega) (fun _ => rfl) (fun c H1 _ _ => et_test (ev_inS (neg := true) (evd_var (.str _)) (evd_str (x := smallS)))) fun c H1 _ _ _ => evd_var (.str _)) (ok_lst_of ?_))) (congrArg PyData.bool ?_)) (x.trans e1) fun v H2 Hd g => k v H2 Hd (g.after e1)
      · intro d hd
        obtain ⟨c, hc, rfl⟩ := List.mem_map.mp hd
        exact ok_sign ok (List.mem_filter.mp hc).1
      · unfold nameS
        rw [hl, hb.2, Bool.true_and, Bool.not_false, Bool.true_and]
        show (!(!(List.map _ _).isEmpty)) = _
        rw [Bool.not_not, List.isEmpty_map, Bool.eq_iff_iff, List.isEmpty_iff, List.filter_eq_nil_iff, List.all_eq_true]
        simp
theorem sc_is_sum : FnScope ["thing", "deep", "part"] ["thing", "deep"] (defScope s_is_sum) := ⟨rfl, rfl, rfl, by decide +kernel, rfl, by decide +kernel, by decide +kernel⟩
theorem step_is_sum {f : Addr} {fd : FuncData} (F : FnP K "is_sum" "is_sum" s_is_sum f fd) (g : mg "is_sum" = some (.ref f)) (T : Tx mg) (n : Nat) {a_WORDS : Addr} (m_WORDS : mg "WORDS" = some (.ref a_WORDS)) (b_WORDS : ∀ H, Dt K H (.ref a_WORDS) (.tuple (wordsS.map PyData.str))) (h_is_sum : Has P w K mg base CX0 (n + 1) "is_sum" ["thing", "deep"] (spD K (Fprev F_is_sum n))) (h_is_within : Has P w K mg base CX0 1 "is_within" ["thing", "low", "high"] (spD K F_is_within)) (m_ROUND : ∃ t, mg "ROUND" = some (.int 10000 t)) (h_is_name : Has P w K mg base CX0 1 "is_name" ["thing"] (spD K F_is_name)) : HasF P w K mg base CX0 (n + 2) "is_sum" ["thing", "deep"] (spD K (F_is_sum n)) f fd := by
  have nd := (sc_is_sum).nd
  refine hasF_d (FF := F_is_sum n) F g (F.bindsN fun _ _ _ _ _ _ us hl => match us, hl with | [_, _], _ => rfl) sc_is_sum (by rintro _ _ ⟨_, rfl, _⟩; rfl) (fun cdv A outer s H vs Q E ds d H0 hr x hd hf k => ?_)
  obtain ⟨a, rfl, ok, rfl⟩ := hf
  obtain ⟨v0, v1, rfl, d0, d1⟩ := dts2 hd
  refine ⟨_, (pss_cons (ps_if (kTruth (K := K) rfl (pe_callB (kIsi (K := K) rfl) rfl (T.free (by decide)) boot_isinstance (pa_cons (pv 0) (pa_cons (pe_bltn (v := .ty "str") rfl (T.free (by decide)) boot_str rfl) pa_nil)))) (pss_one (ps_ret (pe_has h_is_name hr (by omega) rfl pass0 (pa_cons (pv 0) pa_nil)))) pss_nil)
      (pss_cons (ps_if (pt_not (kTruth (K := K) rfl (pe_callB (kIsi (K := K) rfl) rfl (T.free (by decide)) boot_isinstance (pa_cons (pv 0) (pa_cons (pe_bltn (v := .ty "tuple") rfl (T.free (by decide)) boot_tuple rfl) pa_nil))))) (pss_one (ps_ret (pe_has h_is_within hr (by omega) rfl pass0 (pa_cons (pv 0) (pa_cons pe_int (pa_cons (pe_op op_sub (pe_gint m_ROUND) pe_int) pa_nil)))))) pss_nil)
      (pss_cons (ps_if (PW.pt (pw_or (pt_cmpR op_lt (pv 1) pe_int (nomark _)) (pw_or (pt_not (kTruth (K := K) rfl (pv 0))) (pw_or1 (pt_not (kTruth (K := K) rfl (pe_callB (kIsi (K := K) rfl) rfl (T.free (by decide)) boot_isinstance (pa_cons (pe_ix (kIx (K := K) rfl) (pv 0) pe_int (fun _ _ => rfl)) (pa_cons (pe_bltn (v := .ty "str") rfl (T.free (by decide)) boot_str rfl) pa_nil))))))))) (pss_one (ps_ret pe_bl)) pss_nil)
      (pss_cons (ps_if (PW.pt (pw_or (PW.pt (pw_and (pt_cmpR (kIn (K := K) rfl) (pe_ix (kIx (K := K) rfl) (pv 0) pe_int (fun _ _ => rfl)) (pe_gref m_WORDS) rfl) (pw_and1 (pt_cmpR (kEq (K := K) rfl hr.units) (pe_callB (kLen (K := K) rfl) rfl (T.free (by decide)) boot_len (pa_cons (pv 0) pa_nil)) pe_int (nomark _))))) (pw_or1 (PW.pt (pw_and (pt_cmpR (kEq (K := K) rfl hr.units) (pe_ix (kIx (K := K) rfl) (pv 0) pe_int (fun _ _ => rfl)) pe_str (nomark _)) (pw_and1 (pt_cmpR (kEq (K := K) rfl hr.units) (pe_callB (kLen (K := K) rfl) rfl (T.free (by decide)) boot_len (pa_cons (pv 0) pa_nil)) pe_int (nomark _)))))))) (pss_one (ps_ret (kNot (K := K) rfl (pe_lc (own := [("part", 2)]) rfl nd (kSeq (K := K) rfl (pe_slice (kSl (K := K) rfl) (pv 0) (po_some pe_int) po_none)) (blkOk_by (N := ["thing", "deep", "part"]) (sc := defScope s_is_sum) (own := [("part", 2)]) (by decide +kernel)) (fun _ _ _ _ _ => (pg_name (i := 2) nd rfl (Or.inl rfl))) (fun _ _ _ _ _ => (pts_one (pt_not (kTruth (K := K) rfl (pe_has h_is_sum hr (by omega) rfl pass0 (pa_cons (pv 2) (pa_cons (pe_op op_sub (pv 1) pe_int) pa_nil))))))) (fun _ _ _ _ _ => (pv 2)))))) pss_nil)
      (pss_one (ps_ret pe_bl)))))), ?_⟩
  have k : Rt K H0 H (.bool (isSum n a)) Q := k
  cases hS : isT a "str" with
  | true =>
    refine s_yes (et_is (et_b (ev_isi (evd_var d0) (by decide))) hS) x fun H1 e1 => ?_
    refine (k.go e1).ret (x.trans e1) (evd_call (eds_cons (evd_var d0) eds_nil) ⟨_, rfl, ok, rfl⟩) ?_
    obtain ⟨z, rfl⟩ := isT_str hS
    cases n <;> rfl
  | false =>
    refine s_nay (et_is (et_b (ev_isi (evd_var d0) (by decide))) hS) x fun H1 e1 => ?_
    cases hT : isT a "tuple" with
    | false =>
      refine s_yes (et_not (a := false) (et_is (et_b (ev_isi (evd_var d0) (by decide))) hT)) (x.trans e1) fun H2 e2 => ?_
      refine ((k.go e1).go e2).ret ((x.trans e1).trans e2) (evd_call (eds_cons (evd_var d0) (eds_cons evd_int (eds_cons (evd_i (ev_I0 (K := K) evd_int evd_int)) eds_nil))) ⟨_, _, _, rfl, rfl⟩) ?_
      rw [isSum_nontup hS hT]
      rfl
    | true =>
      refine s_nay (et_not (a := true) (et_is (et_b (ev_isi (evd_var d0) (by decide))) hT)) (x.trans e1) fun H2 e2 => ?_
      obtain ⟨ds, rfl⟩ := isT_tup hT
      have x2 := (x.trans e1).trans e2
      have k2 := (k.go e1).go e2
      have no : ∀ {H3 : Hp}, Ex H2 H3 → isSum n (.tuple ds) = false → tRet (tC (.bl false)) { nx := fun _ H' => Q .non H', rt := Q } (start ["thing", "deep", "part"] [v0, v1]) H3 := fun e3 z => (k2.go e3).ret (x2.trans e3) evd_bl (congrArg PyData.bool z.symm)
      cases n with
      | zero =>
        refine s_yes (et_or (a := true) (b := true) (et_test (ev_is (ev_I0 (K := K) (evd_var d1) evd_int) rfl)) fun z => nomatch z) x2 fun H3 e3 => no e3 (by simp [isSum])
      | succ m =>
        have t1 : EvT (tTest (tOp (rI0 fun i j => V.bl (decide (i < j))) (tVar 1) (tC (.int 1)))) (start ["thing", "deep", "part"] [v0, v1]) H0 false := et_test (ev_is (ev_I0 (K := K) (evd_var d1) evd_int) (by show V.bl (decide (((m + 1 : Nat) : Int) < 1)) = _; rw [decide_eq_false (by omega)]))
        cases ds with
        | nil =>
          refine s_yes (et_or (a := false) (b := true) t1 fun _ => et_or (a := true) (b := true) (et_not (a := false) (et_d (evd_var d0) ok)) fun z => nomatch z) x2 fun H3 e3 => no e3 ?_
          rfl
        | cons w r =>
          have i0 : EvD K (tOp (rIx K) (tVar 0) (tC (.int 0))) (start ["thing", "deep", "part"] [v0, v1]) H0 w := evd_ixT (evd_var d0) evd_int (atI_0 _ _)
          cases hw : isT w "str" with
          | false =>
            refine s_yes (et_or (a := false) (b := true) t1 fun _ => et_or (a := false) (b := true) (et_not (a := true) (et_d (evd_var d0) ok)) fun _ => et_not (a := false) (et_is (et_b (ev_isi i0 (by decide))) hw)) x2 fun H3 e3 => no e3 ?_
            cases w <;> first | rfl | simp [isT, tyN] at hw
          | true =>
            obtain ⟨z, rfl⟩ := isT_str hw
            refine s_nay (et_or (a := false) (b := false) t1 fun _ => et_or (a := false) (b := false) (et_not (a := true) (et_d (evd_var d0) ok)) fun _ => et_not (a := true) (et_is (et_b (ev_isi i0 (by decide))) hw)) x2 fun H3 e3 => ?_
            have okz : SeqAt.shaped (PyData.str z) = true := shapedS (ok_tup ok (List.mem_cons_self ..))
            have hW : ∀ H1, Dt K H1 (.ref a_WORDS) (.tuple (wordsS.map PyData.str)) := fun H1 => b_WORDS H1
            have len : ∀ q : Int, Ev (tOp (rEqD K) (tCB (rLenU K) (tCons (tVar 0) tNil)) (tC (.int q))) (start ["thing", "deep", "part"] [v0, v1]) H0 (.bl (((r.length + 1 : Nat) : Int) == q)) := fun q => ev_eq (evd_i (ev_lenT (evd_var d0))) evd_int rfl rfl
            refine s_ifD (b := sumHead z (r.length + 1)) (et_is (et_or (et_and (et_test (ev_inT (neg := false) i0 (evd_ref (hW _)) rfl (flat_strs _))) fun _ => et_test (len 3)) fun _ => et_and (et_test (ev_eq i0 evd_str okz (by decide +kernel))) fun _ => et_test (len 4)) ?_) (x2.trans e3) (fun hb H4 e4 => ?_) fun hb H4 e4 => ?_
            · unfold sumHead
              rw [show (if false = true then _ else inD (PyData.str z) (wordsS.map PyData.str)) = inD (PyData.str z) (wordsS.map PyData.str) from rfl, inD_str]
              have e3 : (((r.length + 1 : Nat) : Int) == 3) = (r.length + 1 == 3) := by rw [Bool.eq_iff_iff]; simp; omega
              have e4 : (((r.length + 1 : Nat) : Int) == 4) = (r.length + 1 == 4) := by rw [Bool.eq_iff_iff]; simp; omega
              rw [e3, e4]
              rfl
            · have hlen : r.length ≤ 3 := by
                unfold sumHead at hb
                simp at hb
                omega
              have sl : EvD K (tSl (rSlU K) (tVar 0) (tPart (tC (.int 1))) tNoPart) (start ["thing", "deep", "part"] [v0, v1]) H0 (.tuple r) := evd_is (evd_slT (evd_var d0) (eo_i (K := K) evd_int) eo_none) (congrArg PyData.tuple (cut_tail _ _))
              refine ((k2.go e3).go e4).ret ((x2.trans e3).trans e4) (evd_b (ev_notD (evd_lcT (fun d => !isSum m d) id sl (by omega) (fun _ => rfl) (fun v d H5 _ hm hv => et_not (et_b (ev_bl (evd_call (eds_cons (evd_var hv) (eds_cons (evd_i (ev_is (ev_I0 (K := K) (evd_var (d := .int ((m + 1 : Nat) : Int)) ?_) evd_int) ?_)) eds_nil)) ⟨d, rfl, ok_tup ok (List.mem_cons_of_mem _ hm), rfl⟩)))) fun v d H5 _ _ _ hv => evd_var hv) (ok_lst_of ?_))) (congrArg PyData.bool ?_)
              · exact dp_ex (by assumption) _ _ d1
              · show V.int (((m + 1 : Nat) : Int) - 1) = V.int (m : Int)
                congr 1
                omega
              · intro d hd
                rw [List.map_id] at hd
                exact ok_tup ok (List.mem_cons_of_mem _ (List.mem_filter.mp hd).1)
              · show (!(!(List.map id (r.filter fun d => !isSum m d)).isEmpty)) = (sumHead z (r.length + 1) && r.all (isSum m))
                rw [hb, Bool.true_and, Bool.not_not, List.isEmpty_map, Bool.eq_iff_iff, List.isEmpty_iff, List.filter_eq_nil_iff, List.all_eq_true]
                simp
            · refine no (e3.trans e4) ?_
              show (sumHead z (r.length + 1) && _) = false
              rw [hb, Bool.false_and]
theorem all_is_sum {f : Addr} {fd : FuncData} (F : FnP K "is_sum" "is_sum" s_is_sum f fd) (g : mg "is_sum" = some (.ref f)) (T : Tx mg) {a_WORDS : Addr} (m_WORDS : mg "WORDS" = some (.ref a_WORDS)) (b_WORDS : ∀ H, Dt K H (.ref a_WORDS) (.tuple (wordsS.map PyData.str)))  (h_is_within : Has P w K mg base CX0 1 "is_within" ["thing", "low", "high"] (spD K F_is_within)) (m_ROUND : ∃ t, mg "ROUND" = some (.int 10000 t)) (h_is_name : Has P w K mg base CX0 1 "is_name" ["thing"] (spD K F_is_name)) : ∀ n : Nat, HasF P w K mg base CX0 (n + 2) "is_sum" ["thing", "deep"] (spD K (F_is_sum n)) f fd
  | 0 => step_is_sum F g T 0 (h_is_sum := has_never F g (F.bindsN fun _ _ _ _ _ _ us hl => match us, hl with | [_, _], _ => rfl) _ fun _ _ z => z) (m_WORDS := m_WORDS) (b_WORDS := b_WORDS) (h_is_within := h_is_within) (m_ROUND := m_ROUND) (h_is_name := h_is_name)
  | n + 1 => step_is_sum F g T (n + 1) (h_is_sum := (all_is_sum F g T (m_WORDS := m_WORDS) (b_WORDS := b_WORDS) (h_is_within := h_is_within) (m_ROUND := m_ROUND) (h_is_name := h_is_name) n).has) (m_WORDS := m_WORDS) (b_WORDS := b_WORDS) (h_is_within := h_is_within) (m_ROUND := m_ROUND) (h_is_name := h_is_name)
theorem ok_is_sum {f : Addr} {fd : FuncData} (F : FnP K "is_sum" "is_sum" s_is_sum f fd) (g : mg "is_sum" = some (.ref f)) (T : Tx mg) {a_WORDS : Addr} (m_WORDS : mg "WORDS" = some (.ref a_WORDS)) (b_WORDS : ∀ H, Dt K H (.ref a_WORDS) (.tuple (wordsS.map PyData.str)))  (h_is_within : Has P w K mg base CX0 1 "is_within" ["thing", "low", "high"] (spD K F_is_within)) (m_ROUND : ∃ t, mg "ROUND" = some (.int 10000 t)) (h_is_name : Has P w K mg base CX0 1 "is_name" ["thing"] (spD K F_is_name)) : Has P w K mg base CX0 8 "is_sum" ["thing", "deep"] (spD K (F_is_sum 6)) :=
  (all_is_sum F g T (m_WORDS := m_WORDS) (b_WORDS := b_WORDS) (h_is_within := h_is_within) (m_ROUND := m_ROUND) (h_is_name := h_is_name) 6).has
theorem sc_is_row : FnScope ["thing"] ["thing"] (defScope s_is_row) := ⟨rfl, rfl, rfl, by decide +kernel, rfl, by decide +kernel, by decide +kernel⟩
theorem ok_is_row {f : Addr} {fd : FuncData} (F : FnP K "is_row" "is_row" s_is_row f fd) (g : mg "is_row" = some (.ref f)) (T : Tx mg) (h_is_sum : Has P w K mg base CX0 8 "is_sum" ["thing", "deep"] (spD K (F_is_sum 6))) (m_MOST_DEEP : ∃ t, mg "MOST_DEEP" = some (.int 6 t)) (h_is_name : Has P w K mg base CX0 1 "is_name" ["thing"] (spD K F_is_name)) : Has P w K mg base CX0 9 "is_row" ["thing"] (spD K F_is_row) := by
  have nd := (sc_is_row).nd
  refine has_d (FF := F_is_row) F g (F.bindsN fun _ _ _ _ _ _ us hl => match us, hl with | [_], _ => rfl) sc_is_row (by rintro _ _ ⟨_, rfl, _⟩; rfl) (fun cdv A outer s H vs Q E ds d H0 hr x hd hf k => ?_)
  obtain ⟨a, rfl, ok, rfl⟩ := hf
  obtain ⟨v0, rfl, d0⟩ := dts1 hd
  refine ⟨_, (pss_cons (ps_if (PW.pt (pw_or (pt_not (kTruth (K := K) rfl (pe_callB (kIsi (K := K) rfl) rfl (T.free (by decide)) boot_isinstance (pa_cons (pv 0) (pa_cons (pe_bltn (v := .ty "tuple") rfl (T.free (by decide)) boot_tuple rfl) pa_nil))))) (pw_or (pt_not (kTruth (K := K) rfl (pv 0))) (pw_or1 (pt_not (kTruth (K := K) rfl (pe_callB (kIsi (K := K) rfl) rfl (T.free (by decide)) boot_isinstance (pa_cons (pe_ix (kIx (K := K) rfl) (pv 0) pe_int (fun _ _ => rfl)) (pa_cons (pe_bltn (v := .ty "str") rfl (T.free (by decide)) boot_str rfl) pa_nil))))))))) (pss_one (ps_ret pe_bl)) pss_nil)
      (pss_cons (ps_if (pt_cmpR (kEq (K := K) rfl hr.units) (pe_ix (kIx (K := K) rfl) (pv 0) pe_int (fun _ _ => rfl)) pe_str (nomark _)) (pss_one (ps_ret (pe_and (pe_cmpR (kEq (K := K) rfl hr.units) (pe_callB (kLen (K := K) rfl) rfl (T.free (by decide)) boot_len (pa_cons (pv 0) pa_nil)) pe_int (nomark _)) (pe_one (pe_has h_is_sum hr (by omega) rfl pass0 (pa_cons (pe_ix (kIx (K := K) rfl) (pv 0) pe_int (fun _ _ => rfl)) (pa_cons (pe_gint m_MOST_DEEP) pa_nil))))))) pss_nil)
      (pss_one (ps_ret (pe_and (pe_cmpR (kEq (K := K) rfl hr.units) (pe_ix (kIx (K := K) rfl) (pv 0) pe_int (fun _ _ => rfl)) pe_str (nomark _)) (pe_and (pe_cmpR (kEq (K := K) rfl hr.units) (pe_callB (kLen (K := K) rfl) rfl (T.free (by decide)) boot_len (pa_cons (pv 0) pa_nil)) pe_int (nomark _)) (pe_and (pe_has h_is_name hr (by omega) rfl pass0 (pa_cons (pe_ix (kIx (K := K) rfl) (pv 0) pe_int (fun _ _ => rfl)) pa_nil)) (pe_one (pe_has h_is_sum hr (by omega) rfl pass0 (pa_cons (pe_ix (kIx (K := K) rfl) (pv 0) pe_int (fun _ _ => rfl)) (pa_cons (pe_gint m_MOST_DEEP) pa_nil))))))))))), ?_⟩
  have k : Rt K H0 H (.bool (isRow a)) Q := k
  have no : ∀ {H3 : Hp}, Ex H H3 → isRow a = false → tRet (tC (.bl false)) { nx := fun _ H' => Q .non H', rt := Q } (start ["thing"] [v0]) H3 := fun e3 z => (k.go e3).ret (x.trans e3) evd_bl (congrArg PyData.bool z.symm)
  cases hT : isT a "tuple" with
  | false =>
    refine s_yes (et_or (a := true) (b := true) (et_not (a := false) (et_is (et_b (ev_isi (evd_var d0) (by decide))) hT)) fun z => nomatch z) x fun H1 e1 => no e1 ?_
    cases a <;> first | rfl | simp [isT, tyN] at hT
  | true =>
    obtain ⟨ds, rfl⟩ := isT_tup hT
    cases ds with
    | nil =>
      refine s_yes (et_or (a := false) (b := true) (et_not (a := true) (et_is (et_b (ev_isi (evd_var d0) (by decide))) hT)) fun _ => et_or (a := true) (b := true) (et_not (a := false) (et_d (evd_var d0) ok)) fun z => nomatch z) x fun H1 e1 => no e1 rfl
    | cons w r =>
      have i0 : EvD K (tOp (rIx K) (tVar 0) (tC (.int 0))) (start ["thing"] [v0]) H0 w := evd_ixT (evd_var d0) evd_int (atI_0 _ _)
      cases hw : isT w "str" with
      | false =>
        refine s_yes (et_or (a := false) (b := true) (et_not (a := true) (et_is (et_b (ev_isi (evd_var d0) (by decide))) hT)) fun _ => et_or (a := false) (b := true) (et_not (a := true) (et_d (evd_var d0) ok)) fun _ => et_not (a := false) (et_is (et_b (ev_isi i0 (by decide))) hw)) x fun H1 e1 => no e1 ?_
        cases w <;> first | rfl | simp [isT, tyN] at hw
      | true =>
        obtain ⟨z, rfl⟩ := isT_str hw
        refine s_nay (et_or (a := false) (b := false) (et_not (a := true) (et_is (et_b (ev_isi (evd_var d0) (by decide))) hT)) fun _ => et_or (a := false) (b := false) (et_not (a := true) (et_d (evd_var d0) ok)) fun _ => et_not (a := true) (et_is (et_b (ev_isi i0 (by decide))) hw)) x fun H1 e1 => ?_
        have okz : SeqAt.shaped (PyData.str z) = true := shapedS (ok_tup ok (List.mem_cons_self ..))
        have len : ∀ q : Int, Ev (tOp (rEqD K) (tCB (rLenU K) (tCons (tVar 0) tNil)) (tC (.int q))) (start ["thing"] [v0]) H0 (.bl (((r.length + 1 : Nat) : Int) == q)) := fun q => ev_eq (evd_i (ev_lenT (evd_var d0))) evd_int rfl rfl
        refine s_ifD (b := decide (z = "show")) (et_is (et_test (ev_eq i0 evd_str okz (by decide +kernel))) ?_) (x.trans e1) (fun hb H2 e2 => ?_) fun hb H2 e2 => ?_
        · show (z == ("show" : Str)) = decide (z = "show")
          rw [Bool.eq_iff_iff]; simp
        · have ez : z = "show" := of_decide_eq_true hb
          subst ez
          cases hr2 : (((r.length + 1 : Nat) : Int) == 2) with
          | false =>
            refine ((k.go e1).go e2).ret ((x.trans e1).trans e2) (evd_b (ev_andV (a := false) (b := true) (ev_is (len 2) (by rw [hr2])) fun z => nomatch z)) (congrArg PyData.bool ?_)
            match r with
            | [] => rfl
            | [_] => simp at hr2
            | [b, c] => show (false && true) = (decide (("show" : Str) = "set") && (isName b && isSum 6 c)); rw [decide_eq_false (by decide +kernel)]; rfl
            | _ :: _ :: _ :: _ => rfl
          | true =>
            obtain ⟨b, rfl⟩ : ∃ b, r = [b] := by
              match r with
              | [] => simp at hr2
              | [b] => exact ⟨b, rfl⟩
              | _ :: _ :: _ => simp at hr2 <;> omega
            refine ((k.go e1).go e2).ret ((x.trans e1).trans e2) (evd_b (ev_andV (a := true) (b := isSum 6 b) (ev_is (len 2) (by rw [hr2])) fun _ => ev_bl (evd_call (eds_cons (evd_ixT (evd_var d0) evd_int (atI_1 _ _ _)) (eds_cons evd_int eds_nil)) ⟨b, rfl, ok_tup ok (by simp), rfl⟩))) (congrArg PyData.bool ?_)
            show (true && isSum 6 b) = (decide (("show" : Str) = "show") && isSum 6 b)
            rw [decide_eq_true rfl]
        · have nz : ¬ z = "show" := of_decide_eq_false hb
          cases hz : decide (z = "set") with
          | false =>
            refine ((k.go e1).go e2).ret ((x.trans e1).trans e2) (evd_b (ev_andV (a := false) (b := true) (ev_is (ev_eq i0 evd_str okz (by decide +kernel)) ?_) fun z => nomatch z)) (congrArg PyData.bool ?_)
            · show V.bl (z == ("set" : Str)) = V.bl false
              rw [← hz]; rfl
            · match r with
              | [] => rfl
              | [b] => show (false && true) = (decide (z = "show") && isSum 6 b); rw [hb]; rfl
              | [b, c] => show (false && true) = (decide (z = "set") && (isName b && isSum 6 c)); rw [hz]; rfl
              | _ :: _ :: _ :: _ => rfl
          | true =>
            have e0 : V.bl (PyData.eqv (.str z) (.str "set")) = V.bl true := by
              show V.bl (z == ("set" : Str)) = V.bl true
              rw [← hz]; rfl
            cases hr2 : (((r.length + 1 : Nat) : Int) == 3) with
            | false =>
              refine ((k.go e1).go e2).ret ((x.trans e1).trans e2) (evd_b (ev_andV (a := true) (b := false) (ev_is (ev_eq i0 evd_str okz (by decide +kernel)) e0) fun _ => ev_andV (a := false) (b := true) (ev_is (len 3) (by rw [hr2])) fun z => nomatch z)) (congrArg PyData.bool ?_)
              match r with
              | [] => rfl
              | [b] => show (true && (false && true)) = (decide (z = "show") && isSum 6 b); rw [hb]; rfl
              | [_, _] => simp at hr2
              | _ :: _ :: _ :: _ => rfl
            | true =>
              obtain ⟨b, c, rfl⟩ : ∃ b c, r = [b, c] := by
                match r with
                | [] => simp at hr2
                | [b] => simp at hr2
                | [b, c] => exact ⟨b, c, rfl⟩
                | _ :: _ :: _ :: _ => simp at hr2 <;> omega
              refine ((k.go e1).go e2).ret ((x.trans e1).trans e2) (evd_b (ev_andV (a := true) (b := isName b && isSum 6 c) (ev_is (ev_eq i0 evd_str okz (by decide +kernel)) e0) fun _ => ev_andV (a := true) (b := isName b && isSum 6 c) (ev_is (len 3) (by rw [hr2])) fun _ => ev_andV (ev_bl (evd_call (eds_cons (evd_ixT (evd_var d0) evd_int (atI_1 _ _ _)) eds_nil) ⟨b, rfl, ok_tup ok (by simp), rfl⟩)) fun _ =>
                ev_bl (evd_call (eds_cons (evd_ixT (evd_var d0) evd_int (atI_2 _ _ _ _)) (eds_cons evd_int eds_nil)) ⟨c, rfl, ok_tup ok (by simp), rfl⟩))) (congrArg PyData.bool ?_)
              show (true && (true && (isName b && isSum 6 c))) = (decide (z = "set") && (isName b && isSum 6 c))
              rw [hz]
              rfl
theorem sc_is_source : FnScope ["thing", "row"] ["thing"] (defScope s_is_source) := ⟨rfl, rfl, rfl, by decide +kernel, rfl, by decide +kernel, by decide +kernel⟩
theorem ok_is_source {f : Addr} {fd : FuncData} (F : FnP K "is_source" "is_source" s_is_source f fd) (g : mg "is_source" = some (.ref f)) (T : Tx mg) (h_is_row : Has P w K mg base CX0 9 "is_row" ["thing"] (spD K F_is_row)) (m_MOST_ROWS : ∃ t, mg "MOST_ROWS" = some (.int 8 t)) : Has P w K mg base CX0 10 "is_source" ["thing"] (spD K F_is_source) := by
  have nd := (sc_is_source).nd
  refine has_d (FF := F_is_source) F g (F.bindsN fun _ _ _ _ _ _ us hl => match us, hl with | [_], _ => rfl) sc_is_source (by rintro _ _ ⟨_, rfl, _⟩; rfl) (fun cdv A outer s H vs Q E ds d H0 hr x hd hf k => ?_)
  obtain ⟨a, rfl, ok, rfl⟩ := hf
  obtain ⟨v0, rfl, d0⟩ := dts1 hd
  refine ⟨_, (pss_cons (ps_if (PW.pt (pw_or (pt_not (kTruth (K := K) rfl (pe_callB (kIsi (K := K) rfl) rfl (T.free (by decide)) boot_isinstance (pa_cons (pv 0) (pa_cons (pe_bltn (v := .ty "tuple") rfl (T.free (by decide)) boot_tuple rfl) pa_nil))))) (pw_or1 (pt_cmpR op_gt (pe_callB (kLen (K := K) rfl) rfl (T.free (by decide)) boot_len (pa_cons (pv 0) pa_nil)) (pe_gint m_MOST_ROWS) (nomark _))))) (pss_one (ps_ret pe_bl)) pss_nil)
      (pss_one (ps_ret (kNot (K := K) rfl (pe_lc (own := [("row", 1)]) rfl nd (kSeq (K := K) rfl (pv 0)) (blkOk_by (N := ["thing", "row"]) (sc := defScope s_is_source) (own := [("row", 1)]) (by decide +kernel)) (fun _ _ _ _ _ => (pg_name (i := 1) nd rfl (Or.inl rfl))) (fun _ _ _ _ _ => (pts_one (pt_not (kTruth (K := K) rfl (pe_has h_is_row hr (by omega) rfl pass0 (pa_cons (pv 1) pa_nil)))))) (fun _ _ _ _ _ => (pv 1))))))), ?_⟩
  have k : Rt K H0 H (.bool (isSource a)) Q := k
  have no : ∀ {H3 : Hp}, Ex H H3 → isSource a = false → tRet (tC (.bl false)) { nx := fun _ H' => Q .non H', rt := Q } (start ["thing", "row"] [v0]) H3 := fun e3 z => (k.go e3).ret (x.trans e3) evd_bl (congrArg PyData.bool z.symm)
  cases hT : isT a "tuple" with
  | false =>
    refine s_yes (et_or (a := true) (b := true) (et_not (a := false) (et_is (et_b (ev_isi (evd_var d0) (by decide))) hT)) fun z => nomatch z) x fun H1 e1 => no e1 ?_
    cases a <;> first | rfl | simp [isT, tyN] at hT
  | true =>
    obtain ⟨ds, rfl⟩ := isT_tup hT
    refine s_ifD (b := decide ((8 : Int) < (ds.length : Int))) (et_or (a := false) (et_not (a := true) (et_is (et_b (ev_isi (evd_var d0) (by decide))) hT)) fun _ => et_test (ev_I0 (K := K) (evd_i (ev_lenT (evd_var d0))) evd_int)) x (fun hb H1 e1 => no e1 ?_) fun hb H1 e1 => ?_
    · have hb := of_decide_eq_true hb
      show (decide (ds.length ≤ 8) && _) = false
      rw [decide_eq_false (by omega), Bool.false_and]
    · have hb := of_decide_eq_false hb
      refine (k.go e1).ret (x.trans e1) (evd_b (ev_notD (evd_lcT (fun d => !isRow d) id (evd_var d0) (by omega) (fun _ => rfl) (fun v d H5 _ hm hv => et_not (et_b (ev_bl (evd_call (eds_cons (evd_var hv) eds_nil) ⟨d, rfl, ok_tup ok hm, rfl⟩)))) fun v d H5 _ _ _ hv => evd_var hv) (ok_lst_of ?_))) (congrArg PyData.bool ?_)
      · intro d hd
        rw [List.map_id] at hd
        exact ok_tup ok (List.mem_filter.mp hd).1
      · show (!(!(List.map id (ds.filter fun d => !isRow d)).isEmpty)) = (decide (ds.length ≤ 8) && ds.all isRow)
        rw [decide_eq_true (by omega), Bool.true_and, Bool.not_not, List.isEmpty_map, Bool.eq_iff_iff, List.isEmpty_iff, List.filter_eq_nil_iff, List.all_eq_true]
        simp
theorem sc_look : FnScope ["source"] ["source"] (defScope s_look) := ⟨rfl, rfl, rfl, by decide +kernel, rfl, by decide +kernel, by decide +kernel⟩
theorem ok_look {f : Addr} {fd : FuncData} (F : FnP K "look" "look" s_look f fd) (g : mg "look" = some (.ref f)) (T : Tx mg) (h_is_source : Has P w K mg base CX0 10 "is_source" ["thing"] (spD K F_is_source)) {c_BadSource : Addr} (x_BadSource : ExcF K mg "BadSource" c_BadSource) : Has P w K mg base (L2.CX P w) 11 "look" ["source"] (spDX K c_BadSource F_look) := by
  have nd := (sc_look).nd
  refine has_x F g (F.bindsN fun _ _ _ _ _ _ us hl => match us, hl with | [_], _ => rfl) sc_look (by rintro _ _ _ _ ⟨_, _, _, _, hd, ⟨_, rfl, _⟩, _⟩; exact dpAll_len hd) (fun cdv A outer s H vs Q E hr h => ?_)
  obtain ⟨_, o, H0, x, hd, ⟨d, rfl, ok, rfl⟩, k1, k2⟩ := h
  obtain ⟨v0, rfl, d0⟩ := dts1 hd
  refine ⟨_, (pss_one (ps_if (pt_not (kTruth (K := K) rfl (pe_has h_is_source hr (by omega) rfl pass0 (pa_cons (pv 0) pa_nil)))) (pss_one (ps_raise rfl (takes_of rfl rfl rfl rfl) (pmk_own PySem.F.excBase_ValueError x_BadSource.q x_BadSource.g x_BadSource.k (raises_own x_BadSource.b x_BadSource.t) rfl))) pss_nil)), ?_⟩
  refine s_ifD (b := !isSource d) (et_not (et_b (ev_bl (evd_call (eds_cons (evd_var d0) eds_nil) ⟨d, rfl, ok, rfl⟩)))) x (fun hb H1 e1 => ?_) fun hb H1 e1 => ?_
  · have hb : isSource d = false := by simpa using hb
    rw [hb] at k2
    exact k2 rfl H1 e1
  · have hb : isSource d = true := by simpa using hb
    rw [hb] at k1
    exact k1 _ rfl .non H1 H0 (Gr.base x e1) .non
theorem sc_names_in : FnScope ["some", "found", "part"] ["some"] (defScope s_names_in) := ⟨rfl, rfl, rfl, by decide +kernel, rfl, by decide +kernel, by decide +kernel⟩
theorem step_names_in {f : Addr} {fd : FuncData} (F : FnP K "names_in" "names_in" s_names_in f fd) (g : mg "names_in" = some (.ref f)) (T : Tx mg) (n : Nat) (h_names_in : Has P w K mg base CX0 (n + 1) "names_in" ["some"] (spD K (Fprev F_names_in n))) : HasF P w K mg base CX0 (n + 2) "names_in" ["some"] (spD K (F_names_in n)) f fd := by
  have nd := (sc_names_in).nd
  refine hasF_d (FF := F_names_in n) F g (F.bindsN fun _ _ _ _ _ _ us hl => match us, hl with | [_], _ => rfl) sc_names_in (by rintro _ _ ⟨_, rfl, _⟩; rfl) (fun cdv A outer s H vs Q E ds d H0 hr x hd hf k => ?_)
  obtain ⟨s, rfl, hn, h6, rfl⟩ := hf
  obtain ⟨v0, rfl, d0⟩ := dts1 hd
  refine ⟨_, (pss_cons (ps_if (kTruth (K := K) rfl (pe_callB (kIsi (K := K) rfl) rfl (T.free (by decide)) boot_isinstance (pa_cons (pv 0) (pa_cons (pe_bltn (v := .ty "str") rfl (T.free (by decide)) boot_str rfl) pa_nil)))) (pss_one (ps_ret (pe_lst (pa_cons (pv 0) pa_nil)))) pss_nil)
      (pss_cons (ps_set (i := 1) nd rfl (Or.inl rfl) (pe_lst pa_nil))
      (pss_cons (ps_if (kTruth (K := K) rfl (pe_callB (kIsi (K := K) rfl) rfl (T.free (by decide)) boot_isinstance (pa_cons (pv 0) (pa_cons (pe_bltn (v := .ty "tuple") rfl (T.free (by decide)) boot_tuple rfl) pa_nil)))) (pss_one (ps_for PassesOwn.never rfl (kSeq (K := K) rfl (pe_slice (kSl (K := K) rfl) (pv 0) (po_some pe_int) po_none)) (pg_name (i := 2) nd rfl (Or.inl rfl)) (pss_one (ps_expr (pe_bm PySem.F.plainAttrs_list PySem.F.slot_list_extend PySem.F.type_list_extend mt_extend (pv 1) (pa_cons (pe_has h_names_in hr (by omega) rfl pass0 (pa_cons (pv 2) pa_nil)) pa_nil)))))) pss_nil)
      (pss_one (ps_ret (pv 1)))))), ?_⟩
  have k : Rt K H0 H (.list (s.names.map PyData.str)) Q := k
  cases hS : isT s.enc "str" with
  | true =>
    refine s_yes (et_is (et_b (ev_isi (evd_var d0) (by decide))) hS) x fun H1 e1 => ?_
    refine (k.go e1).ret (x.trans e1) (evd_lst (eds_cons (evd_var d0) eds_nil) (by simp)) ?_
    cases s <;> first | rfl | simp [Sm.enc, isT, tyN] at hS
  | false =>
    refine s_nay (et_is (et_b (ev_isi (evd_var d0) (by decide))) hS) x fun H1 e1 => ?_
    have hnm := s.names_parts hS
    refine s_new (K := K) (i := 1) eds_nil (x.trans e1) fun p H2 hp a => ?_
    have hp0 : H0 p = none := fresh_back (x.trans e1) hp
    have x2 : Ex H0 H2 := a.base
    cases hT : isT s.enc "tuple" with
    | false =>
      refine s_nay (et_is (et_b (ev_isi (evd_var d0) (by decide))) hT) x2 fun H3 e3 => ?_
      refine ⟨_, rfl, Acc.ret k (a.grow e3) (Ex.refl _) (fun _ h _ => h) e1 hp ?_⟩
      cases s <;> first | rfl | (simp [Sm.enc, isT, tyN] at hS hT)
    | true =>
      refine s_yes (et_is (et_b (ev_isi (evd_var d0) (by decide))) hT) x2 fun H3 e3 => ?_
      obtain ⟨w, hw⟩ := s.enc_parts hT
      have d0' : Dt K H0 v0 (.tuple (.str w :: s.parts.map Sm.enc)) := hw ▸ d0
      obtain ⟨m, rfl⟩ : ∃ m, n = m + 1 := by
        cases n with
        | zero =>
          have hd0 : s.depth = 0 := by omega
          cases s <;> first | (simp [Sm.depth] at hd0; done) | (simp [Sm.enc, isT, tyN] at hS hT; done)
        | succ m => exact ⟨m, rfl⟩
      have hl : s.names.length ≤ 729 := Nat.le_trans (names_len s) (Nat.le_trans (Nat.pow_le_pow_right (by omega) h6) (by decide))
      refine s_forT (K := K) (evd_is (evd_slT (evd_var d0') (eo_i (K := K) evd_int) eo_none) (congrArg PyData.tuple (cut_tail _ _))) (x2.trans e3) fun H4 Hd gr => ?_
      have hpd : Hd p = none := gr.fr p hp0 (ne_none e3 (by obtain ⟨acc, q, _⟩ := a.at; rw [q]; exact fun z => nomatch z))
      refine ⟨fun i σ' H' => (∃ o, σ' = [some v0, some (.ref p), o]) ∧ Acc K Hd H1 p (((s.parts.take i).flatMap Sm.names).map PyData.str) H', ⟨⟨none, rfl⟩, ((a.grow e3).grow gr.ex).rebase gr.xd gr.d2 hpd⟩, fun i σ' H' q => q.2.base, ?_, ?_⟩
      · rintro i v d σ' H' hi hv ⟨⟨o, rfl⟩, q⟩
        rw [List.getElem?_map] at hi
        obtain ⟨t, ht, rfl⟩ := Option.map_eq_some_iff.mp hi
        have hm : t ∈ s.parts := List.mem_of_getElem? ht
        have hpd2 := Sm.parts_depth hm
        refine s_ext (K := K) (i := 1) (p := p) rfl q hpd hp (evd_call (eds_cons (evd_var hv) eds_nil) ⟨t, rfl, by omega, by omega, rfl⟩) ?_ fun H5 q5 _ => ⟨⟨_, rfl⟩, ?_⟩
        · rw [List.length_map, List.length_map, ← List.length_append, ← take_flat Sm.names ht]
          have := flat_take_len Sm.names s.parts (i + 1)
          rw [← hnm] at this
          omega
        · rw [take_flat Sm.names ht, List.map_append]
          exact q5
      · rintro σ' H' ⟨⟨o, rfl⟩, q⟩
        refine ⟨_, rfl, Acc.ret k q gr.xd (fun b h0 h1 => gr.fr b h0 (ne_none e3 (ne_none (e1.trans a.1) h1))) e1 hp ?_⟩
        rw [List.length_map, List.take_length, hnm]
theorem all_names_in {f : Addr} {fd : FuncData} (F : FnP K "names_in" "names_in" s_names_in f fd) (g : mg "names_in" = some (.ref f)) (T : Tx mg)  : ∀ n : Nat, HasF P w K mg base CX0 (n + 2) "names_in" ["some"] (spD K (F_names_in n)) f fd
  | 0 => step_names_in F g T 0 (h_names_in := has_never F g (F.bindsN fun _ _ _ _ _ _ us hl => match us, hl with | [_], _ => rfl) _ fun _ _ z => z) 
  | n + 1 => step_names_in F g T (n + 1) (h_names_in := (all_names_in F g T  n).has) 
theorem ok_names_in {f : Addr} {fd : FuncData} (F : FnP K "names_in" "names_in" s_names_in f fd) (g : mg "names_in" = some (.ref f)) (T : Tx mg)  : Has P w K mg base CX0 8 "names_in" ["some"] (spD K (F_names_in 6)) :=
  (all_names_in F g T  6).has
theorem sc_sets_of : FnScope ["source", "row"] ["source"] (defScope s_sets_of) := ⟨rfl, rfl, rfl, by decide +kernel, rfl, by decide +kernel, by decide +kernel⟩
theorem ok_sets_of {f : Addr} {fd : FuncData} (F : FnP K "sets_of" "sets_of" s_sets_of f fd) (g : mg "sets_of" = some (.ref f)) (T : Tx mg)  : Has P w K mg base CX0 1 "sets_of" ["source"] (spD K F_sets_of) := by
  have nd := (sc_sets_of).nd
  refine has_d (FF := F_sets_of) F g (F.bindsN fun _ _ _ _ _ _ us hl => match us, hl with | [_], _ => rfl) sc_sets_of (by rintro _ _ ⟨_, rfl, _⟩; rfl) (fun cdv A outer s H vs Q E ds d H0 hr x hd hf k => ?_)
  obtain ⟨src, rfl, hg, rfl⟩ := hf
  obtain ⟨v0, rfl, d0⟩ := dts1 hd
  refine ⟨_, (pss_one (ps_ret (pe_lc (own := [("row", 1)]) rfl nd (kSeq (K := K) rfl (pv 0)) (blkOk_by (N := ["source", "row"]) (sc := defScope s_sets_of) (own := [("row", 1)]) (by decide +kernel)) (fun _ _ _ _ _ => (pg_name (i := 1) nd rfl (Or.inl rfl))) (fun _ _ _ _ _ => (pts_one (pt_cmpR (kEq (K := K) rfl hr.units) (pe_ix (kIx (K := K) rfl) (pv 1) pe_int (fun _ _ => rfl)) pe_str (nomark _)))) (fun _ _ _ _ _ => (pe_ix (kIx (K := K) rfl) (pv 1) pe_int (fun _ _ => rfl)))))), ?_⟩
  have k : Rt K H0 H (.list ((setsOf src).map PyData.str)) Q := k
  have hl := goodS_len hg
  refine k.ret x (evd_lcT isSetD secondD (evd_var d0) (by rw [List.length_map]; omega) (fun _ => rfl) (fun v d H1 _ hm hv => ?_) fun v d H1 _ hm hs hv => ?_) (congrArg PyData.list (sets_data src))
  · obtain ⟨r, hr, rfl⟩ := List.mem_map.mp hm
    exact et_test (ev_isSet (evd_var hv))
  · obtain ⟨r, hr, rfl⟩ := List.mem_map.mp hm
    cases r with
    | set x s => exact evd_setName (evd_var hv)
    | shw s => rw [isSetD_shw] at hs; cases hs
theorem sc_reads_of : FnScope ["source", "found", "mine", "row", "name"] ["source"] (defScope s_reads_of) := ⟨rfl, rfl, rfl, by decide +kernel, rfl, by decide +kernel, by decide +kernel⟩
theorem ok_reads_of {f : Addr} {fd : FuncData} (F : FnP K "reads_of" "reads_of" s_reads_of f fd) (g : mg "reads_of" = some (.ref f)) (T : Tx mg) (h_names_in : Has P w K mg base CX0 8 "names_in" ["some"] (spD K (F_names_in 6))) : Has P w K mg base CX0 9 "reads_of" ["source"] (spD K F_reads_of) := by
  have nd := (sc_reads_of).nd
  refine has_d (FF := F_reads_of) F g (F.bindsN fun _ _ _ _ _ _ us hl => match us, hl with | [_], _ => rfl) sc_reads_of (by rintro _ _ ⟨_, rfl, _⟩; rfl) (fun cdv A outer s H vs Q E ds d H0 hr x hd hf k => ?_)
  obtain ⟨src, rfl, hg, rfl⟩ := hf
  obtain ⟨v0, rfl, d0⟩ := dts1 hd
  refine ⟨_, (pss_cons (ps_set (i := 1) nd rfl (Or.inl rfl) (pe_lst pa_nil))
      (pss_cons (ps_set (i := 2) nd rfl (Or.inl rfl) (pe_lst pa_nil))
      (pss_cons (ps_for PassesOwn.never rfl (kSeq (K := K) rfl (pv 0)) (pg_name (i := 3) nd rfl (Or.inl rfl)) (pss_cons (ps_for PassesOwn.never rfl (kSeq (K := K) rfl (pe_has h_names_in hr (by omega) rfl pass0 (pa_cons (pe_ix (kIx (K := K) rfl) (pv 3) (pe_un un_neg pe_int) (fun _ _ => rfl)) pa_nil))) (pg_name (i := 4) nd rfl (Or.inl rfl)) (pss_one (ps_if (PW.pt (pw_and (pt_cmpR (kNotIn (K := K) rfl) (pv 4) (pv 2) rfl) (pw_and1 (pt_cmpR (kNotIn (K := K) rfl) (pv 4) (pv 1) rfl)))) (pss_one (ps_expr (pe_bm PySem.F.plainAttrs_list PySem.F.slot_list_append PySem.F.type_list_append mt_append (pv 1) (pa_cons (pv 4) pa_nil)))) pss_nil)))
      (pss_one (ps_if (pt_cmpR (kEq (K := K) rfl hr.units) (pe_ix (kIx (K := K) rfl) (pv 3) pe_int (fun _ _ => rfl)) pe_str (nomark _)) (pss_one (ps_expr (pe_bm PySem.F.plainAttrs_list PySem.F.slot_list_append PySem.F.type_list_append mt_append (pv 2) (pa_cons (pe_ix (kIx (K := K) rfl) (pv 3) pe_int (fun _ _ => rfl)) pa_nil)))) pss_nil))))
      (pss_one (ps_ret (pv 1)))))), ?_⟩
  have k : Rt K H0 H (.list ((readsOf src).map PyData.str)) Q := k
  have hl8 := goodS_len hg
  refine s_asgL (i := 1) (el_lst ea_nil (by simp)) fun p H1 hp e1 h1 => ?_
  refine s_asgL (i := 2) (el_lst ea_nil (by simp)) fun q H2 hq e2 h2 => ?_
  have npq : p ≠ q := fun z => by rw [z] at h1; rw [h1] at hq; cases hq
  have hqH : H q = none := fresh_back e1 hq
  refine s_forT (K := K) (evd_var d0) (x.trans (e1.trans e2)) fun H3 Hd gr => ?_
  have hpd : Hd p = none := gr.fr p (fresh_back x hp) (by rw [e2 _ _ h1]; exact fun z => nomatch z)
  have hqd : Hd q = none := gr.fr q (fresh_back x hqH) (by rw [h2]; exact fun z => nomatch z)
  refine ⟨fun i σ' H' => (∃ o1 o2, σ' = [some v0, some (.ref p), some (.ref q), o1, o2]) ∧ Ex Hd H' ∧ Ex H H' ∧ H' p = some (.lst (((src.take i).foldl readsGo ([], [])).1.map V.str)) ∧ H' q = some (.lst (((src.take i).foldl readsGo ([], [])).2.map V.str)),
    ⟨⟨none, none, rfl⟩, gr.d2, (e1.trans e2).trans gr.ex, gr.ex _ _ (e2 _ _ h1), gr.ex _ _ h2⟩, fun i σ' H' z => z.2.1, ?_, ?_⟩
  · rintro i v d σ' H' hi hv ⟨⟨o1, o2, rfl⟩, xd, xh, fp, fq⟩
    rw [List.getElem?_map] at hi
    obtain ⟨r, hr, rfl⟩ := Option.map_eq_some_iff.mp hi
    have hm : r ∈ src := List.mem_of_getElem? hr
    have gd := goodS_row hg hm
    have gs := Rw.good_sum gd
    have e0 := take_foldl readsGo hr ([], [])
    have hlen := reads_len (src.take i) (fun r hr => goodS_row hg (List.mem_of_mem_take hr)) ([], [])
    have hlen2 := mine_len (src.take i) ([], [])
    have hti : (src.take i).length ≤ 8 := by rw [List.length_take]; omega
    generalize (src.take i).foldl readsGo ([], []) = acc at *
    obtain ⟨fs, ms⟩ := acc
    simp only [List.length_nil] at hlen hlen2
    have hn : r.sum.names.length ≤ 729 := Nat.le_trans (names_len _) (Nat.le_trans (Nat.pow_le_pow_right (by omega) gs.2) (by decide))
    refine s_forL (K := K) (evd_call (eds_cons (evd_last (evd_var hv)) eds_nil) ⟨r.sum, rfl, gs.2, gs.2, rfl⟩) xd fun H4 Hd' gr' => ?_
    have hpd' : Hd' p = none := gr'.fr p hpd (by rw [fp]; exact fun z => nomatch z)
    have hqd' : Hd' q = none := gr'.fr q hqd (by rw [fq]; exact fun z => nomatch z)
    refine ⟨fun j σ' H' => (∃ o2, σ' = [some v0, some (.ref p), some (.ref q), some v, o2]) ∧ Ex Hd' H' ∧ Ex Hd H' ∧ Ex H H' ∧ H' p = some (.lst (((r.sum.names.take j).foldl (addName ms) fs).map V.str)) ∧ H' q = some (.lst (ms.map V.str)),
      ⟨⟨o2, rfl⟩, gr'.d2, xd.trans gr'.ex, xh.trans gr'.ex, gr'.ex _ _ fp, gr'.ex _ _ fq⟩, fun i σ' H' z => z.2.1, ?_, ?_⟩
    · rintro j v2 d2 σ' H5 hj hv2 ⟨⟨o2, rfl⟩, xd', xd5, xh5, fp5, fq5⟩
      rw [List.getElem?_map] at hj
      obtain ⟨y, hy, rfl⟩ := Option.map_eq_some_iff.mp hj
      have ey := dp_str hv2
      subst ey
      have e1 := take_foldl (addName ms) hy fs
      have hlj := foldl_addName_len ms (r.sum.names.take j) fs
      have htj : (r.sum.names.take j).length ≤ 729 := by rw [List.length_take]; omega
      generalize (r.sum.names.take j).foldl (addName ms) fs = gs2 at *
      have dm : Dt K H5 (.ref q) (.list (ms.map PyData.str)) := .lst fq5 (dt_strs ms)
      have df : Dt K H5 (.ref p) (.list (gs2.map PyData.str)) := .lst fp5 (dt_strs gs2)
      refine s_ifD (H0 := H5) (b := !decide (y ∈ ms) && !decide (y ∈ gs2)) (et_is (et_and (et_test (ev_inL (neg := true) (evd_var (.str y)) (evd_var dm) rfl (flat_strs _))) fun _ => et_test (ev_inL (neg := true) (evd_var (.str y)) (evd_var df) rfl (flat_strs _))) ?_) (Ex.refl _) (fun hb H6 e6 => ?_) fun hb H6 e6 => ?_
      · rw [inD_strs, inD_strs] <;> rfl
      · have hb2 : ¬ (y ∈ ms ∨ y ∈ gs2) := by simpa using hb
        have ea : addName ms gs2 y = gs2 ++ [y] := if_neg hb2
        refine Evl.s_app (l := p) (xs := gs2.map V.str) (e6 _ _ fp5) (ev_var rfl) (ev_var rfl) (by rw [List.length_map]; omega) fun H7 e7 => ?_
        refine ⟨⟨_, rfl⟩, ex_upd (xd'.trans (e6.trans e7)) hpd', ex_upd (xd5.trans (e6.trans e7)) hpd, Ex.mut (xh5.trans (e6.trans e7)) hp, ?_, ?_⟩
        · rw [e1, ea, upd_same, List.map_append] <;> rfl
        · rw [upd_ne npq.symm]
          exact e7 _ _ (e6 _ _ fq5)
      · have hb2 : y ∈ ms ∨ y ∈ gs2 := by
          rw [Bool.and_eq_false_iff] at hb
          simpa using hb
        have ea : addName ms gs2 y = gs2 := if_pos hb2
        refine ⟨⟨_, rfl⟩, xd'.trans e6, xd5.trans e6, xh5.trans e6, ?_, e6 _ _ fq5⟩
        rw [e1, ea]
        exact e6 _ _ fp5
    · rintro σ' H5 ⟨⟨o2, rfl⟩, xd', xd5, xh5, fp5, fq5⟩
      rw [List.length_map, List.take_length] at fp5
      refine s_ifD (b := isSetD r.enc) (et_test (ev_isSet (evd_var hv))) xd5 (fun hb H6 e6 => ?_) fun hb H6 e6 => ?_
      · cases r with
        | shw s => rw [isSetD_shw] at hb; cases hb
        | set z s =>
          refine Evl.s_app (H := H6) (l := q) (xs := ms.map V.str) (v := .str z) (e6 _ _ fq5) (ev_var rfl) (ev_str (K := K) (evd_setName (s := s) (evd_var (dp_ex (xd5.trans e6) _ _ hv)))) (by rw [List.length_map]; omega) fun H7 e7 => ?_
          refine ⟨⟨_, _, rfl⟩, ex_upd (xd5.trans (e6.trans e7)) hqd, Ex.mut (xh5.trans (e6.trans e7)) hqH, ?_, ?_⟩
          · rw [upd_ne npq, e0]
            exact e7 _ _ (e6 _ _ fp5)
          · rw [upd_same, e0, readsGo_eq]
            show some (HO.lst (ms.map V.str ++ [V.str z])) = some (HO.lst ((ms ++ [z]).map V.str))
            rw [List.map_append] <;> rfl
      · cases r with
        | set z s => rw [isSetD_set] at hb; cases hb
        | shw s =>
          refine ⟨⟨_, _, rfl⟩, xd5.trans e6, xh5.trans e6, ?_, ?_⟩
          · rw [e0]
            exact e6 _ _ fp5
          · rw [e0, readsGo_eq]
            show H6 q = some (HO.lst ((ms ++ []).map V.str))
            rw [List.append_nil]
            exact e6 _ _ fq5
  · rintro σ' H' ⟨⟨o1, o2, rfl⟩, xd, xh, fp, fq⟩
    rw [List.length_map, List.take_length] at fp
    exact ⟨_, rfl, flat_ret k x xh hp fp (dt_strs _) rfl⟩
theorem sc_sets : FnScope ["source"] ["source"] (defScope s_sets) := ⟨rfl, rfl, rfl, by decide +kernel, rfl, by decide +kernel, by decide +kernel⟩
theorem ok_sets {f : Addr} {fd : FuncData} (F : FnP K "sets" "sets" s_sets f fd) (g : mg "sets" = some (.ref f)) (T : Tx mg) {c_BadSource : Addr} (h_sets_of : Has P w K mg base CX0 1 "sets_of" ["source"] (spD K F_sets_of)) (h_look : Has P w K mg base (L2.CX P w) 11 "look" ["source"] (spDX K c_BadSource F_look)) : Has P w K mg base (L2.CX P w) 12 "sets" ["source"] (spDX K c_BadSource F_sets) := by
  have nd := (sc_sets).nd
  refine has_x F g (F.bindsN fun _ _ _ _ _ _ us hl => match us, hl with | [_], _ => rfl) sc_sets (by rintro _ _ _ _ ⟨_, _, _, _, hd, ⟨_, rfl, _⟩, _⟩; exact dpAll_len hd) (fun cdv A outer s H vs Q E hr h => ?_)
  obtain ⟨_, o, H0, x, hd, ⟨d, rfl, ok, hf⟩, k1, k2⟩ := h
  obtain ⟨v0, rfl, d0⟩ := dts1 hd
  refine ⟨_, (pss_cons (ps_expr (pe_has h_look hr (by omega) rfl (passes_call (takes_of rfl rfl rfl rfl) fun _ _ _ _ h => h) (pa_cons (pv 0) pa_nil)))
      (pss_one (ps_ret (pe_callB (kSort (w := w) rfl rfl) rfl (T.free (by decide)) boot_sorted (pa_cons (pe_callTy (kSet (K := K) (w := w) rfl rfl rfl) rfl (T.free (by decide)) boot_set (pa_cons (pe_has h_sets_of hr (by omega) rfl pass0 (pa_cons (pv 0) pa_nil)) pa_nil)) pa_nil))))), ?_⟩
  refine s_callX (cB := c_BadSource) (eds_cons (evd_var d0) eds_nil) x ⟨d, rfl, ok, rfl⟩ (fun z e H1 e1 => ?_) fun e H1 e1 => ?_
  · rcases hf with ⟨src, rfl, hg, rfl⟩ | ⟨hn, _⟩
    · have hl := setsOf_len src
      have h8 := goodS_len hg
      exact ((k1 _ rfl).go e1).ret (x.trans e1) (evd_sortS (evd_call (eds_cons (evd_var d0) eds_nil) ⟨src, rfl, hg, rfl⟩) (by omega)) rfl
    · rw [hn] at e
      cases e
  · rcases hf with ⟨src, rfl, hg, rfl⟩ | ⟨hn, rfl⟩
    · rw [isSource_enc src hg] at e
      cases e
    · exact k2 rfl H1 e1
theorem sc_reads : FnScope ["source"] ["source"] (defScope s_reads) := ⟨rfl, rfl, rfl, by decide +kernel, rfl, by decide +kernel, by decide +kernel⟩
theorem ok_reads {f : Addr} {fd : FuncData} (F : FnP K "reads" "reads" s_reads f fd) (g : mg "reads" = some (.ref f)) (T : Tx mg) {c_BadSource : Addr} (h_reads_of : Has P w K mg base CX0 9 "reads_of" ["source"] (spD K F_reads_of)) (h_look : Has P w K mg base (L2.CX P w) 11 "look" ["source"] (spDX K c_BadSource F_look)) : Has P w K mg base (L2.CX P w) 12 "reads" ["source"] (spDX K c_BadSource F_reads) := by
  have nd := (sc_reads).nd
  refine has_x F g (F.bindsN fun _ _ _ _ _ _ us hl => match us, hl with | [_], _ => rfl) sc_reads (by rintro _ _ _ _ ⟨_, _, _, _, hd, ⟨_, rfl, _⟩, _⟩; exact dpAll_len hd) (fun cdv A outer s H vs Q E hr h => ?_)
  obtain ⟨_, o, H0, x, hd, ⟨d, rfl, ok, hf⟩, k1, k2⟩ := h
  obtain ⟨v0, rfl, d0⟩ := dts1 hd
  refine ⟨_, (pss_cons (ps_expr (pe_has h_look hr (by omega) rfl (passes_call (takes_of rfl rfl rfl rfl) fun _ _ _ _ h => h) (pa_cons (pv 0) pa_nil)))
      (pss_one (ps_ret (pe_has h_reads_of hr (by omega) rfl pass0 (pa_cons (pv 0) pa_nil))))), ?_⟩
  refine s_callX (cB := c_BadSource) (eds_cons (evd_var d0) eds_nil) x ⟨d, rfl, ok, rfl⟩ (fun z e H1 e1 => ?_) fun e H1 e1 => ?_
  · rcases hf with ⟨src, rfl, hg, rfl⟩ | ⟨hn, _⟩
    · exact ((k1 _ rfl).go e1).ret (x.trans e1) (evd_call (eds_cons (evd_var d0) eds_nil) ⟨src, rfl, hg, rfl⟩) rfl
    · rw [hn] at e
      cases e
  · rcases hf with ⟨src, rfl, hg, rfl⟩ | ⟨hn, rfl⟩
    · rw [isSource_enc src hg] at e
      cases e
    · exact k2 rfl H1 e1
theorem ok_text_of {f : Addr} {fd : FuncData} (F : FnP K "text_of" "text_of" s_text_of f fd) (g : mg "text_of" = some (.ref f)) (T : Tx mg) : Has P w K mg base CX0 1 "text_of" ["source"] (spD K Fnever) := has_never F g (F.bindsN fun _ _ _ _ _ _ us hl => match us, hl with | [_], _ => rfl) _ fun _ _ z => z
theorem sc_shown : FnScope ["source"] ["source"] (defScope s_shown) := ⟨rfl, rfl, rfl, by decide +kernel, rfl, by decide +kernel, by decide +kernel⟩
theorem ok_shown {f : Addr} {fd : FuncData} (F : FnP K "shown" "shown" s_shown f fd) (g : mg "shown" = some (.ref f)) (T : Tx mg) {c_BadSource : Addr} (h_text_of : Has P w K mg base CX0 1 "text_of" ["source"] (spD K Fnever)) (h_look : Has P w K mg base (L2.CX P w) 11 "look" ["source"] (spDX K c_BadSource F_look)) : Has P w K mg base (L2.CX P w) 12 "shown" ["source"] (spDX K c_BadSource F_none) := by
  have nd := (sc_shown).nd
  refine has_x F g (F.bindsN fun _ _ _ _ _ _ us hl => match us, hl with | [_], _ => rfl) sc_shown (by rintro _ _ _ _ ⟨_, _, _, _, hd, ⟨_, rfl, _⟩, _⟩; exact dpAll_len hd) (fun cdv A outer s H vs Q E hr h => ?_)
  obtain ⟨_, o, H0, x, hd, ⟨d, rfl, ok, hn, rfl⟩, k1, k2⟩ := h
  obtain ⟨v0, rfl, d0⟩ := dts1 hd
  refine ⟨_, (pss_cons (ps_expr (pe_has h_look hr (by omega) rfl (passes_call (takes_of rfl rfl rfl rfl) fun _ _ _ _ h => h) (pa_cons (pv 0) pa_nil)))
      (pss_one (ps_ret (pe_has h_text_of hr (by omega) rfl pass0 (pa_cons (pv 0) pa_nil))))), ?_⟩
  refine s_callX (cB := c_BadSource) (eds_cons (evd_var d0) eds_nil) x ⟨d, rfl, ok, rfl⟩ (fun z e H1 e1 => ?_) fun e H1 e1 => k2 rfl H1 e1
  rw [hn] at e
  cases e
theorem sc_law_cell : FnScope ["script", "k"] ["script", "k"] (defScope s_law_cell) := ⟨rfl, rfl, rfl, by decide +kernel, rfl, by decide +kernel, by decide +kernel⟩
theorem ok_law_cell {f : Addr} {fd : FuncData} (F : FnP K "_law_cell" "_law_cell" s_law_cell f fd) (g : mg "_law_cell" = some (.ref f)) (T : Tx mg)  : Has P w K mg base CX0 1 "_law_cell" ["script", "k"] (spLcell K) := by
  have nd := (sc_law_cell).nd
  refine has_p F g (F.bindsN fun _ _ _ _ _ _ us hl => match us, hl with | [_, _], _ => rfl) sc_law_cell (by rintro _ _ _ _ ⟨_, _, _, rfl, _⟩; rfl) (fun cdv A outer s H vs Q E hr h => ?_)
  obtain ⟨a, ns, i, rfl, hS, hi, hl, k⟩ := h
  refine ⟨_, (pss_cons (ps_if (pt_cmpR op_lt (pv 1) (pe_callB (kLen (K := K) rfl) rfl (T.free (by decide)) boot_len (pa_cons (pv 0) pa_nil)) (nomark _)) (pss_one (ps_ret (pe_ix (kIx (K := K) rfl) (pv 0) (pv 1) (fun _ _ => rfl)))) pss_nil)
      (pss_one (ps_ret pe_int))), ?_⟩
  refine s_ifD (H0 := H) (b := decide (i < (ns.length : Int))) (et_test (ev_is (ev_op (ev_var rfl) (fun H1 e Q q => ⟨_, rfl, _, ns.length, rfl, .inl ⟨_, ex_l e hS, by rw [List.length_map]⟩, q H1 (Ex.refl H1)⟩) rv_I0) rfl)) (Ex.refl H) (fun hb H1 e1 => ?_) fun hb H1 e1 => ?_
  · have hb := of_decide_eq_true hb
    refine ⟨_, rfl, _, rfl, .inl ⟨a, _, i, .int (cellAt ns i), rfl, rfl, ex_l e1 hS, ?_, k H1 e1⟩⟩
    unfold cellAt
    rw [getD_atI _ _ (.int 0) hi (by rw [List.length_map]; exact hb), List.getD_eq_getElem?_getD, List.getD_eq_getElem?_getD, List.getElem?_map]
    cases ns[i.toNat]? <;> rfl
  · have hb := of_decide_eq_false hb
    have e0 : cellAt ns i = 0 := by
      unfold cellAt
      rw [List.getD_eq_getElem?_getD, List.getElem?_eq_none (by omega)]
      rfl
    rw [e0] at k
    exact k H1 e1
theorem sc_law_seed : FnScope ["seed", "k"] ["seed", "k"] (defScope s_law_seed) := ⟨rfl, rfl, rfl, by decide +kernel, rfl, by decide +kernel, by decide +kernel⟩
theorem ok_law_seed {f : Addr} {fd : FuncData} (F : FnP K "_law_seed" "_law_seed" s_law_seed f fd) (g : mg "_law_seed" = some (.ref f)) (T : Tx mg)  : Has P w K mg base CX0 1 "_law_seed" ["seed", "k"] (spD K F_seed) := by
  have nd := (sc_law_seed).nd
  refine has_d (FF := F_seed) F g (F.bindsN fun _ _ _ _ _ _ us hl => match us, hl with | [_, _], _ => rfl) sc_law_seed (by rintro _ _ ⟨_, _, rfl, _⟩; rfl) (fun cdv A outer s H vs Q E ds d H0 hr x hd hf k => ?_)
  obtain ⟨a, b, rfl, rfl⟩ := hf
  obtain ⟨v0, v1, rfl, d0, d1⟩ := dts2 hd
  refine ⟨_, (pss_one (ps_ret (pe_op op_mod (pe_op op_pow (pe_op op_mod (pe_op (kAdd (K := K) rfl) (pe_op (kAdd (K := K) rfl) (pe_op (kMul (K := K) rfl) (pv 0) pe_int) (pe_op (kMul (K := K) rfl) pe_int (pv 1))) pe_int) pe_int) pe_int) pe_int))), ?_⟩
  have m0 : ((a * 1103515245 + 7919 * b + 12345) % 2147483647).natAbs < 2 ^ 64 := by
    have h := mod_lt10 (a * 1103515245 + 7919 * b + 12345) 2147483647 (by omega)
    omega
  exact s_retD (evd_i (ev_I (K := K) (C := fun _ j => 0 < j) (g := fun i j => .int (i % j)) (evd_i (ev_I (K := K) (C := CPow) (g := fun i j => .int (i ^ j.toNat)) (evd_i (ev_I (K := K) (C := fun _ j => 0 < j) (g := fun i j => .int (i % j))
    (ev_addI (ev_addI (evd_mulI (evd_var d0) evd_int (.inr (by decide))) (evd_mulI evd_int (evd_var d1) (.inl (by decide)))) evd_int) evd_int (by decide))) evd_int ⟨by decide, by decide, m0⟩)) evd_int (by decide))) x k
theorem sc_law_pick : FnScope ["seed", "many"] ["seed", "many"] (defScope s_law_pick) := ⟨rfl, rfl, rfl, by decide +kernel, rfl, by decide +kernel, by decide +kernel⟩
theorem ok_law_pick {f : Addr} {fd : FuncData} (F : FnP K "_law_pick" "_law_pick" s_law_pick f fd) (g : mg "_law_pick" = some (.ref f)) (T : Tx mg)  : Has P w K mg base CX0 1 "_law_pick" ["seed", "many"] (spD K F_pick) := by
  have nd := (sc_law_pick).nd
  refine has_d (FF := F_pick) F g (F.bindsN fun _ _ _ _ _ _ us hl => match us, hl with | [_, _], _ => rfl) sc_law_pick (by rintro _ _ ⟨_, _, rfl, _⟩; rfl) (fun cdv A outer s H vs Q E ds d H0 hr x hd hf k => ?_)
  obtain ⟨a, b, rfl, hb, rfl⟩ := hf
  obtain ⟨v0, v1, rfl, d0, d1⟩ := dts2 hd
  refine ⟨_, (pss_one (ps_ret (pe_op op_mod (pe_op op_fdiv (pv 0) pe_int) (pv 1)))), ?_⟩
  exact s_retD (evd_i (ev_I (C := fun _ j => 0 < j) (g := fun i j => .int (i % j)) (evd_i (K := K) (ev_I (C := CDiv) (g := fun i j => .int (i / j)) (evd_var d0) (evd_int (i := 97)) ⟨by decide, by decide⟩)) (evd_var d1) hb)) x k
theorem sc_law_sum : FnScope ["seed", "deep", "some", "parts", "k", "word"] ["seed", "deep"] (defScope s_law_sum) := ⟨rfl, rfl, rfl, by decide +kernel, rfl, by decide +kernel, by decide +kernel⟩
theorem step_law_sum {f : Addr} {fd : FuncData} (F : FnP K "_law_sum" "_law_sum" s_law_sum f fd) (g : mg "_law_sum" = some (.ref f)) (T : Tx mg) (n : Nat) (h__law_sum : Has P w K mg base CX0 (n + 1) "_law_sum" ["seed", "deep"] (spD K (Fprev F_lsum n))) (h__law_seed : Has P w K mg base CX0 1 "_law_seed" ["seed", "k"] (spD K F_seed)) (h__law_pick : Has P w K mg base CX0 1 "_law_pick" ["seed", "many"] (spD K F_pick)) : HasF P w K mg base CX0 (n + 2) "_law_sum" ["seed", "deep"] (spD K (F_lsum n)) f fd := by
  have nd := (sc_law_sum).nd
  refine hasF_d (FF := F_lsum n) F g (F.bindsN fun _ _ _ _ _ _ us hl => match us, hl with | [_, _], _ => rfl) sc_law_sum (by rintro _ _ ⟨_, rfl, _⟩; rfl) (fun cdv A outer s H vs Q E ds d H0 hr x hd hf k => ?_)
  obtain ⟨a, rfl, rfl⟩ := hf
  obtain ⟨v0, v1, rfl, d0, d1⟩ := dts2 hd
  refine ⟨_, (pss_cons (ps_if (PW.pt (pw_or (pt_cmpR op_lt (pv 1) pe_int (nomark _)) (pw_or1 (pt_cmpR (kEq (K := K) rfl hr.units) (pe_has h__law_pick hr (by omega) rfl pass0 (pa_cons (pv 0) (pa_cons pe_int pa_nil))) pe_int (nomark _))))) (pss_cons (ps_set (i := 2) nd rfl (Or.inl rfl) (pe_lst (pa_cons (pe_op op_mod (pe_op op_fdiv (pv 0) pe_int) pe_int) (pa_cons (pe_op op_mod (pe_op op_fdiv (pv 0) pe_int) pe_int) (pa_cons (pe_op op_mod (pe_op op_fdiv (pv 0) pe_int) pe_int) (pa_cons pe_int pa_nil))))))
      (pss_one (ps_ret (pe_ix (kIx (K := K) rfl) (pe_op (kAdd (K := K) rfl) (pv 2) (pe_lst (pa_cons pe_str (pa_cons pe_str (pa_cons pe_str (pa_cons pe_str (pa_cons pe_str (pa_cons pe_str pa_nil)))))))) (pe_op op_mod (pe_op op_fdiv (pv 0) pe_int) pe_int) (fun _ _ => rfl))))) pss_nil)
      (pss_cons (ps_setLc (i := 3) (own := [("k", 4)]) rfl nd rfl rfl (sw_true rfl rfl rfl (by decide +kernel)) (pi_range1 rfl (T.free (by decide)) (pa_cons pe_int pa_nil)) (blkOk_by (N := ["seed", "deep", "some", "parts", "k", "word"]) (sc := defScope s_law_sum) (own := [("k", 4)]) (by decide +kernel)) (fun _ _ _ _ _ => (pg_name (i := 4) nd rfl (Or.inl rfl))) (fun _ _ _ _ _ => pts_nil) (fun _ _ _ _ _ => (pe_has h__law_sum hr (by omega) rfl pass0 (pa_cons (pe_has h__law_seed hr (by omega) rfl pass0 (pa_cons (pv 0) (pa_cons (pv 4) pa_nil))) (pa_cons (pe_op op_sub (pv 1) pe_int) pa_nil)))))
      (pss_cons (ps_set (i := 5) nd rfl (Or.inl rfl) (pe_ix (kIx (K := K) rfl) (pe_lst (pa_cons pe_str (pa_cons pe_str (pa_cons pe_str (pa_cons pe_str (pa_cons pe_str (pa_cons pe_str (pa_cons pe_str pa_nil)))))))) (pe_op op_mod (pe_op op_fdiv (pv 0) pe_int) pe_int) (fun _ _ => rfl)))
      (pss_one (ps_ret (pe_ifExp (pt_cmpR (kEq (K := K) rfl hr.units) (pv 5) pe_str (nomark _)) (pe_tup (pa_cons pe_str (pa_cons (pe_ix (kIx (K := K) rfl) (pv 3) pe_int (fun _ _ => rfl)) (pa_cons (pe_ix (kIx (K := K) rfl) (pv 3) pe_int (fun _ _ => rfl)) (pa_cons (pe_ix (kIx (K := K) rfl) (pv 3) pe_int (fun _ _ => rfl)) pa_nil))))) (pe_tup (pa_cons (pv 5) (pa_cons (pe_ix (kIx (K := K) rfl) (pv 3) pe_int (fun _ _ => rfl)) (pa_cons (pe_ix (kIx (K := K) rfl) (pv 3) pe_int (fun _ _ => rfl)) pa_nil)))))))))), ?_⟩
  have k : Rt K H0 H (lawSum n a).enc Q := k
  have hp : EvT (tTest (tOp (rEqD K) (tCall (spD K F_pick) [] E0 (tCons (tVar 0) (tCons (tC (.int 3)) tNil))) (tC (.int 0)))) (start ["seed", "deep", "some", "parts", "k", "word"] [v0, v1]) H0 (decide (a / 97 % 3 = 0)) := et_is (et_test (ev_eq (evd_call (eds_cons (evd_var d0) (eds_cons evd_int eds_nil)) ⟨a, 3, rfl, by decide, rfl⟩) evd_int rfl rfl)) (by show ((a / 97 % 3) == (0 : Int)) = _; rfl)
  refine s_ifD (b := decide (n = 0) || decide (a / 97 % 3 = 0)) (et_or (et_is (et_test (ev_I0 (K := K) (evd_var d1) evd_int)) (by rw [Bool.eq_iff_iff]; simp; omega)) fun _ => hp) x (fun hb H1 e1 => ?_) fun hb H1 e1 => ?_
  · have el : lawSum n a = lawLeaf a := by
      cases n with
      | zero => rfl
      | succ n =>
        have : a / 97 % 3 = 0 := by simpa using hb
        show (if a / 97 % 3 = 0 then lawLeaf a else _) = lawLeaf a
        rw [if_pos this]
    rw [el] at k
    have k1 := k.go e1
    refine s_asgD (K := K) (d := .list [.int (a / 7 % 10), .int (a / 7 % 4), .int (a / 7 % 10000), .int 0]) (evd_lst (eds_cons (evd_i (ev_I (K := K) (C := fun _ j => 0 < j) (g := fun i j => .int (i % j)) (evd_i (ev_I (K := K) (C := CDiv) (g := fun i j => .int (i / j)) (evd_var d0) evd_int ⟨by decide, by decide⟩)) evd_int (by decide)))
      (eds_cons (evd_i (ev_I (K := K) (C := fun _ j => 0 < j) (g := fun i j => .int (i % j)) (evd_i (ev_I (K := K) (C := CDiv) (g := fun i j => .int (i / j)) (evd_var d0) evd_int ⟨by decide, by decide⟩)) evd_int (by decide)))
      (eds_cons (evd_i (ev_I (K := K) (C := fun _ j => 0 < j) (g := fun i j => .int (i % j)) (evd_i (ev_I (K := K) (C := CDiv) (g := fun i j => .int (i / j)) (evd_var d0) evd_int ⟨by decide, by decide⟩)) evd_int (by decide))) (eds_cons evd_int eds_nil)))) (by simp)) (x.trans e1) fun v H2 Hd g hv => ?_
    have h5 := mod_lt10 (a / 5) 10 (by omega)
    refine (k1.seq g).ret g.d2 (evd_ixL (ds := (leafs a).map Sm.enc) (evd_addL (evd_var hv) (evd_lst (eds_cons evd_str (eds_cons evd_str (eds_cons evd_str (eds_cons evd_str (eds_cons evd_str (eds_cons evd_str eds_nil)))))) (by simp)) (by simp))
      (evd_i (ev_I (K := K) (C := fun _ j => 0 < j) (g := fun i j => .int (i % j)) (evd_i (ev_I (K := K) (C := CDiv) (g := fun i j => .int (i / j)) (evd_var (dp_ex g.xd _ _ d0)) evd_int ⟨by decide, by decide⟩)) evd_int (by decide))) (getD_atI _ _ (.int 0) h5.1 (by show _ < ((10 : Nat) : Int); omega))) ?_
    unfold lawLeaf
    rw [List.getD_eq_getElem?_getD, List.getD_eq_getElem?_getD, List.getElem?_map]
    cases (leafs a)[(a / 5 % 10).toNat]? <;> rfl
  · rw [Bool.or_eq_false_iff] at hb
    obtain ⟨m, rfl⟩ : ∃ m, n = m + 1 := ⟨n - 1, by have := of_decide_eq_false hb.1; omega⟩
    have hn : ¬ a / 97 % 3 = 0 := of_decide_eq_false hb.2
    have k1 := k.go e1
    refine s_asgD (K := K) (d := .list [(lawSum m (seedF a 0)).enc, (lawSum m (seedF a 1)).enc, (lawSum m (seedF a 2)).enc]) (evd_is (evd_lcR (n := 3) (fun k => (lawSum m (seedF a (k : Int))).enc) (eds_cons evd_int eds_nil) (by decide) (fun _ => rfl) fun i A e hi => evd_call (eds_cons (evd_call (eds_cons (evd_var (dp_ex e _ _ d0)) (eds_cons (evd_var (.int _)) eds_nil)) ⟨a, (i : Int), rfl, rfl⟩) (eds_cons (evd_i (ev_is (ev_I0 (K := K) (evd_var (dp_ex e _ _ d1)) evd_int) ?_)) eds_nil)) ⟨seedF a (i : Int), rfl, rfl⟩) rfl) (x.trans e1) fun v H2 Hd g hv => ?_
    · show V.int (((m + 1 : Nat) : Int) - 1) = V.int (m : Int)
      congr 1
      omega
    have k2 := k1.seq g
    have h7 := mod_lt10 (a / 11) 7 (by omega)
    refine s_asgD (K := K) (d := .str (lawWord a)) (evd_is (evd_ixL (ds := lawWords.map PyData.str) (evd_lst (eds_cons evd_str (eds_cons evd_str (eds_cons evd_str (eds_cons evd_str (eds_cons evd_str (eds_cons evd_str (eds_cons evd_str eds_nil))))))) (by decide)) (evd_i (ev_I (K := K) (C := fun _ j => 0 < j) (g := fun i j => .int (i % j)) (evd_i (ev_I (K := K) (C := CDiv) (g := fun i j => .int (i / j)) (evd_var (dp_ex g.xd _ _ d0)) evd_int ⟨by decide, by decide⟩)) evd_int (by decide))) (getD_atI _ _ (.str "add") h7.1 (by show _ < ((7 : Nat) : Int); omega))) ?_) g.d2 fun v2 H3 Hd2 g2 hv2 => ?_
    · unfold lawWord
      rw [List.getD_eq_getElem?_getD, List.getD_eq_getElem?_getD, List.getElem?_map]
      cases lawWords[(a / 11 % 7).toNat]? <;> rfl
    have k3 := k2.seq g2
    have hv3 := dp_ex g2.xd _ _ hv
    have eS : lawSum (m + 1) a = if lawWord a = "if" then .ite (lawSum m (seedF a 0)) (lawSum m (seedF a 1)) (lawSum m (seedF a 2)) else .op (lawWord a) (lawSum m (seedF a 0)) (lawSum m (seedF a 1)) := by
      show (if a / 97 % 3 = 0 then _ else _) = _
      rw [if_neg hn]
    rw [eS] at k3
    have okw : SeqAt.shaped (PyData.str (lawWord a)) = true := by
      have q : lawWords.all (fun w => SeqAt.shaped (PyData.str w)) = true := by decide +kernel
      exact List.all_eq_true.mp q _ (word_mem a)
    refine k3.ret g2.d2 (evd_if (b := decide (lawWord a = "if")) (et_is (et_test (ev_eq (evd_var hv2) evd_str okw (by decide +kernel))) (by show (lawWord a == ("if" : Str)) = _; rfl)) (fun hw => ?_) fun hw => ?_) rfl
    · rw [if_pos (of_decide_eq_true hw)]
      exact evd_tup (eds_cons evd_str (eds_cons (evd_ixL (evd_var hv3) evd_int (atI_0 _ _)) (eds_cons (evd_ixL (evd_var hv3) evd_int (atI_1 _ _ _)) (eds_cons (evd_ixL (evd_var hv3) evd_int (atI_2 _ _ _ _)) eds_nil)))) (by simp)
    · rw [if_neg (of_decide_eq_false hw)]
      exact evd_tup (eds_cons (evd_var hv2) (eds_cons (evd_ixL (evd_var hv3) evd_int (atI_0 _ _)) (eds_cons (evd_ixL (evd_var hv3) evd_int (atI_1 _ _ _)) eds_nil))) (by simp)
theorem all_law_sum {f : Addr} {fd : FuncData} (F : FnP K "_law_sum" "_law_sum" s_law_sum f fd) (g : mg "_law_sum" = some (.ref f)) (T : Tx mg)  (h__law_seed : Has P w K mg base CX0 1 "_law_seed" ["seed", "k"] (spD K F_seed)) (h__law_pick : Has P w K mg base CX0 1 "_law_pick" ["seed", "many"] (spD K F_pick)) : ∀ n : Nat, HasF P w K mg base CX0 (n + 2) "_law_sum" ["seed", "deep"] (spD K (F_lsum n)) f fd
  | 0 => step_law_sum F g T 0 (h__law_sum := has_never F g (F.bindsN fun _ _ _ _ _ _ us hl => match us, hl with | [_, _], _ => rfl) _ fun _ _ z => z) (h__law_seed := h__law_seed) (h__law_pick := h__law_pick)
  | n + 1 => step_law_sum F g T (n + 1) (h__law_sum := (all_law_sum F g T (h__law_seed := h__law_seed) (h__law_pick := h__law_pick) n).has) (h__law_seed := h__law_seed) (h__law_pick := h__law_pick)
theorem ok_law_sum {f : Addr} {fd : FuncData} (F : FnP K "_law_sum" "_law_sum" s_law_sum f fd) (g : mg "_law_sum" = some (.ref f)) (T : Tx mg)  (h__law_seed : Has P w K mg base CX0 1 "_law_seed" ["seed", "k"] (spD K F_seed)) (h__law_pick : Has P w K mg base CX0 1 "_law_pick" ["seed", "many"] (spD K F_pick)) : Has P w K mg base CX0 8 "_law_sum" ["seed", "deep"] (spD K (FU F_lsum 6)) :=
  HasF.union (j := 2) 6 fun n => all_law_sum F g T (h__law_seed := h__law_seed) (h__law_pick := h__law_pick) n
theorem sc_law_source : FnScope ["seed", "found", "k", "one", "some"] ["seed"] (defScope s_law_source) := ⟨rfl, rfl, rfl, by decide +kernel, rfl, by decide +kernel, by decide +kernel⟩
theorem ok_law_source {f : Addr} {fd : FuncData} (F : FnP K "_law_source" "_law_source" s_law_source f fd) (g : mg "_law_source" = some (.ref f)) (T : Tx mg) (h__law_pick : Has P w K mg base CX0 1 "_law_pick" ["seed", "many"] (spD K F_pick)) (h__law_sum : Has P w K mg base CX0 8 "_law_sum" ["seed", "deep"] (spD K (FU F_lsum 6))) (h__law_seed : Has P w K mg base CX0 1 "_law_seed" ["seed", "k"] (spD K F_seed)) : Has P w K mg base CX0 9 "_law_source" ["seed"] (spD K F_lsource) := by
  have nd := (sc_law_source).nd
  refine has_d (FF := F_lsource) F g (F.bindsN fun _ _ _ _ _ _ us hl => match us, hl with | [_], _ => rfl) sc_law_source (by rintro _ _ ⟨_, rfl, _⟩; rfl) (fun cdv A outer s H vs Q E ds d H0 hr x hd hf k => ?_)
  obtain ⟨a, rfl, rfl⟩ := hf
  obtain ⟨v0, rfl, d0⟩ := dts1 hd
  refine ⟨_, (pss_cons (ps_set (i := 1) nd rfl (Or.inl rfl) (pe_lst pa_nil))
      (pss_cons (ps_for PassesOwn.never rfl (pi_range1 rfl (T.free (by decide)) (pa_cons (pe_ix (kIx (K := K) rfl) (pe_lst (pa_cons (pe_op op_mod (pe_op op_fdiv (pv 0) pe_int) pe_int) (pa_cons (pe_op (kAdd (K := K) rfl) pe_int (pe_op op_mod (pe_op op_fdiv (pv 0) pe_int) pe_int)) (pa_cons (pe_op op_mod (pe_op op_fdiv (pv 0) pe_int) pe_int) pa_nil)))) (pe_op op_mod (pe_op op_fdiv (pv 0) pe_int) pe_int) (fun _ _ => rfl)) pa_nil)) (pg_name (i := 2) nd rfl (Or.inl rfl)) (pss_cons (ps_set (i := 3) nd rfl (Or.inl rfl) (pe_has h__law_seed hr (by omega) rfl pass0 (pa_cons (pv 0) (pa_cons (pe_op (kAdd (K := K) rfl) pe_int (pv 2)) pa_nil))))
      (pss_cons (ps_set (i := 4) nd rfl (Or.inl rfl) (pe_has h__law_sum hr (by omega) rfl pass0 (pa_cons (pe_has h__law_seed hr (by omega) rfl pass0 (pa_cons (pv 3) (pa_cons pe_int pa_nil))) (pa_cons (pe_ix (kIx (K := K) rfl) (pe_lst (pa_cons (pe_op op_mod (pe_op op_fdiv (pv 3) pe_int) pe_int) (pa_cons pe_int pa_nil))) (pe_callTy call_int1 rfl (T.free (by decide)) boot_int (pa_cons (pe_cmpR (kEq (K := K) rfl hr.units) (pe_op op_mod (pe_op op_fdiv (pv 3) pe_int) pe_int) pe_int (nomark _)) pa_nil)) (fun _ _ => rfl)) pa_nil))))
      (pss_one (ps_if (pt_cmpR op_gt (pe_has h__law_pick hr (by omega) rfl pass0 (pa_cons (pv 3) (pa_cons pe_int pa_nil))) pe_int (nomark _)) (pss_one (ps_expr (pe_bm PySem.F.plainAttrs_list PySem.F.slot_list_append PySem.F.type_list_append mt_append (pv 1) (pa_cons (pe_tup (pa_cons pe_str (pa_cons (pe_ix (kIx (K := K) rfl) (pe_lst (pa_cons pe_str (pa_cons pe_str (pa_cons pe_str (pa_cons pe_str pa_nil))))) (pe_op op_mod (pe_op op_fdiv (pv 3) pe_int) pe_int) (fun _ _ => rfl)) (pa_cons (pv 4) pa_nil)))) pa_nil)))) (pss_one (ps_expr (pe_bm PySem.F.plainAttrs_list PySem.F.slot_list_append PySem.F.type_list_append mt_append (pv 1) (pa_cons (pe_tup (pa_cons pe_str (pa_cons (pv 4) pa_nil))) pa_nil)))))))))
      (pss_one (ps_ret (pe_callTy (kTup (K := K) rfl) rfl (T.free (by decide)) boot_tuple (pa_cons (pv 1) pa_nil)))))), ?_⟩
  have k : Rt K H0 H (encS (lawSource a)) Q := k
  have h3 := mod_lt10 (a / 11) 3 (by omega)
  have m1 := mod_lt10 (a / 7) 4 (by omega)
  have m2 := mod_lt10 (a / 7) 3 (by omega)
  have m3 := mod_lt10 (a / 7) 9 (by omega)
  refine s_new (K := K) (i := 1) eds_nil x fun p H2 hp ac => ?_
  have hp0 : H0 p = none := fresh_back x hp
  have many : ([.int (a / 7 % 4), .int (1 + a / 7 % 3), .int (a / 7 % 9)] : List PyData).getD (a / 11 % 3).toNat (.int 0) = .int (lawMany a : Int) := by
    unfold lawMany
    have hc : (a / 11 % 3).toNat = 0 ∨ (a / 11 % 3).toNat = 1 ∨ (a / 11 % 3).toNat = 2 := by omega
    rcases hc with e | e | e <;> rw [e] <;> simp <;> omega
  refine s_forN (K := K) (H0 := H0) (n := lawMany a) (eds_cons (evd_is (evd_ixL (evd_lst (eds_cons (evd_i (ev_I (K := K) (C := fun _ j => 0 < j) (g := fun i j => .int (i % j)) (evd_i (ev_I (K := K) (C := CDiv) (g := fun i j => .int (i / j)) (evd_var d0) evd_int ⟨by decide, by decide⟩)) evd_int (by decide)))
    (eds_cons (ev_addI evd_int (evd_i (ev_I (K := K) (C := fun _ j => 0 < j) (g := fun i j => .int (i % j)) (evd_i (ev_I (K := K) (C := CDiv) (g := fun i j => .int (i / j)) (evd_var d0) evd_int ⟨by decide, by decide⟩)) evd_int (by decide))))
    (eds_cons (evd_i (ev_I (K := K) (C := fun _ j => 0 < j) (g := fun i j => .int (i % j)) (evd_i (ev_I (K := K) (C := CDiv) (g := fun i j => .int (i / j)) (evd_var d0) evd_int ⟨by decide, by decide⟩)) evd_int (by decide))) eds_nil))) (by simp))
    (evd_i (ev_I (K := K) (C := fun _ j => 0 < j) (g := fun i j => .int (i % j)) (evd_i (ev_I (K := K) (C := CDiv) (g := fun i j => .int (i / j)) (evd_var d0) evd_int ⟨by decide, by decide⟩)) evd_int (by decide))) (getD_atI _ _ (.int 0) h3.1 (by show _ < ((3 : Nat) : Int); omega))) many) eds_nil) ac.base (by have := lawMany_le a; omega)
    (fun i σ' H' => (∃ o1 o2 o3, σ' = [some v0, some (.ref p), o1, o2, o3]) ∧ Acc K H0 H p (((List.range i).map fun k : Nat => lawRow (seedF a (20 + (k : Int)))).map Rw.enc) H') (fun H3 e3 => ⟨⟨none, none, none, rfl⟩, ac.grow e3⟩) ?_ ?_
  · rintro i σ' H' hi ⟨⟨o1, o2, o3, rfl⟩, q⟩
    have hm := lawMany_le a
    have hlen : (((List.range i).map fun k : Nat => lawRow (seedF a (20 + (k : Int)))).map Rw.enc).length < 100000 := by
      rw [List.length_map, List.length_map, List.length_range]
      omega
    have e0 : (((List.range (i + 1)).map fun k : Nat => lawRow (seedF a (20 + (k : Int)))).map Rw.enc) = ((List.range i).map fun k : Nat => lawRow (seedF a (20 + (k : Int)))).map Rw.enc ++ [(lawRow (seedF a (20 + (i : Int)))).enc] := by
      rw [List.range_succ, List.map_append, List.map_append] <;> rfl
    refine s_asgD (K := K) (d := .int (seedF a (20 + (i : Int)))) (evd_call (eds_cons (evd_var d0) (eds_cons (ev_addI evd_int (evd_var (.int _))) eds_nil)) ⟨a, _, rfl, rfl⟩) q.base fun v H3 Hd g hv => ?_
    have ev := dp_int hv
    subst ev
    generalize seedF a (20 + (i : Int)) = one at *
    have md := lawDeep_le one
    have n7 := mod_lt10 (one / 7) 3 (by omega)
    have n9 := mod_lt10 (one / 13) 9 (by omega)
    have deep : ([.int (one / 7 % 3), .int 6] : List PyData).getD (if decide (one / 13 % 9 = 0) = true then (1 : Int) else 0).toNat (.int 0) = .int (lawDeep one : Int) := by
      unfold lawDeep
      by_cases hz : one / 13 % 9 = 0
      · rw [if_pos (decide_eq_true hz), if_pos hz]
        rfl
      · rw [if_neg (by simp [hz]), if_neg hz]
        show PyData.int _ = PyData.int _
        congr 1
        omega
    refine s_asgD (K := K) (H0 := H0) (d := (lawSum (lawDeep one) (seedF one 1)).enc) (evd_call (eds_cons (evd_call (eds_cons (evd_var (.int one)) (eds_cons evd_int eds_nil)) ⟨one, 1, rfl, rfl⟩) (eds_cons (evd_is (evd_ixL (evd_lst (eds_cons (evd_i (ev_I (K := K) (C := fun _ j => 0 < j) (g := fun i j => .int (i % j)) (evd_i (ev_I (K := K) (C := CDiv) (g := fun i j => .int (i / j)) (evd_var (.int one)) evd_int ⟨by decide, by decide⟩)) evd_int (by decide))) (eds_cons evd_int eds_nil)) (by simp))
      (evd_i (ev_intB (b := decide (one / 13 % 9 = 0)) (ev_is (ev_eq (evd_i (ev_I (K := K) (C := fun _ j => 0 < j) (g := fun i j => .int (i % j)) (evd_i (ev_I (K := K) (C := CDiv) (g := fun i j => .int (i / j)) (evd_var (.int one)) evd_int ⟨by decide, by decide⟩)) evd_int (by decide))) evd_int rfl rfl) rfl))) (getD_atI _ _ (.int 0) (by split <;> omega) (by show _ < ((2 : Nat) : Int); split <;> omega))) deep) eds_nil)) ⟨lawDeep one, md, _, rfl, rfl⟩) (q.base.trans g.ex) fun v2 H4 Hd2 g2 hv2 => ?_
    have hpd : Hd2 p = none := g2.fr p hp0 (ne_none g.ex q.own)
    have q4 := (((q.grow g.ex).grow g2.ex).rebase g2.xd g2.d2 hpd)
    have fin : ∀ H5, Acc K Hd2 H p (((List.range i).map fun k : Nat => lawRow (seedF a (20 + (k : Int)))).map Rw.enc ++ [(lawRow one).enc]) H5 → Acc K H0 H p (((List.range (i + 1)).map fun k : Nat => lawRow (seedF a (20 + (k : Int)))).map Rw.enc) H5 := fun H5 z => by
      rw [e0]
      exact z.debase g2 (q.1.trans g.ex)
    dsimp only
    refine s_ifD (H0 := Hd2) (b := decide (0 < one / 97 % 3)) (et_is (et_test (ev_I0 (K := K) (evd_call (eds_cons (evd_var (.int one)) (eds_cons evd_int eds_nil)) ⟨one, 3, rfl, by decide, rfl⟩) evd_int)) rfl) g2.d2 (fun hb H5 e5 => ?_) fun hb H5 e5 => ?_
    · have hb := of_decide_eq_true hb
      have h11 := mod_lt10 (one / 11) 4 (by omega)
      have er : lawRow one = .set (lawName one) (lawSum (lawDeep one) (seedF one 1)) := if_pos hb
      refine s_app (K := K) (i := 1) (p := p) rfl (q4.grow e5) hpd hp (d := (lawRow one).enc) (evd_is (evd_tup (eds_cons evd_str (eds_cons (evd_is (evd_ixL (ds := (["a", "b", "c", "wxyz"] : List Str).map PyData.str) (evd_lst (eds_cons evd_str (eds_cons evd_str (eds_cons evd_str (eds_cons evd_str eds_nil)))) (by decide)) (evd_i (ev_I (K := K) (C := fun _ j => 0 < j) (g := fun i j => .int (i % j)) (evd_i (ev_I (K := K) (C := CDiv) (g := fun i j => .int (i / j)) (evd_var (.int one)) evd_int ⟨by decide, by decide⟩)) evd_int (by decide))) (getD_atI _ _ (.str "a") h11.1 (by show _ < ((4 : Nat) : Int); omega))) (d' := .str (lawName one)) ?_) (eds_cons (evd_var hv2) eds_nil))) (by simp)) (by rw [er]; rfl)) hlen fun H6 q6 _ => ⟨⟨_, _, _, rfl⟩, fin H6 q6⟩
      unfold lawName
      rw [List.getD_eq_getElem?_getD, List.getD_eq_getElem?_getD, List.getElem?_map]
      cases (["a", "b", "c", "wxyz"] : List Str)[(one / 11 % 4).toNat]? <;> rfl
    · have hb := of_decide_eq_false hb
      have er : lawRow one = .shw (lawSum (lawDeep one) (seedF one 1)) := if_neg hb
      exact s_app (K := K) (i := 1) (p := p) rfl (q4.grow e5) hpd hp (d := (lawRow one).enc) (evd_is (evd_tup (eds_cons evd_str (eds_cons (evd_var hv2) eds_nil)) (by simp)) (by rw [er]; rfl)) hlen fun H6 q6 _ => ⟨⟨_, _, _, rfl⟩, fin H6 q6⟩
  · rintro σ' H' ⟨⟨o1, o2, o3, rfl⟩, q⟩
    obtain ⟨Hd, g1, g2⟩ := q.done (H := H0) (H1 := H) (Ex.refl _) (fun _ h _ => h) (Ex.refl _) hp
    exact (k.seq g1).ret g1.d2 (evd_tupL (evd_var g2)) rfl
theorem sc_law_is_source : FnScope ["thing", "row"] ["thing"] (defScope s_law_is_source) := ⟨rfl, rfl, rfl, by decide +kernel, rfl, by decide +kernel, by decide +kernel⟩
theorem ok_law_is_source {f : Addr} {fd : FuncData} (F : FnP K "_law_is_source" "_law_is_source" s_law_is_source f fd) (g : mg "_law_is_source" = some (.ref f)) (T : Tx mg) (h__law_is_name : Has P w K mg base CX0 1 "_law_is_name" ["text"] (spD K F_kname)) (h__law_is_sum : Has P w K mg base CX0 8 "_law_is_sum" ["thing", "deep"] (spD K (F_ksum 6))) : Has P w K mg base CX0 9 "_law_is_source" ["thing"] (spD K F_ksource) := by
  have nd := (sc_law_is_source).nd
  refine has_d (FF := F_ksource) F g (F.bindsN fun _ _ _ _ _ _ us hl => match us, hl with | [_], _ => rfl) sc_law_is_source (by rintro _ _ ⟨_, _, rfl, _⟩; rfl) (fun cdv A outer s H vs Q E ds d H0 hr x hd hf k => ?_)
  obtain ⟨rs, a, rfl, hx, ok, hdp, hh, rfl⟩ := hf
  obtain ⟨v0, rfl, d0⟩ := dts1 hd
  refine ⟨_, (pss_cons (ps_if (PW.pt (pw_or (pt_not (kTruth (K := K) rfl (pe_callB (kIsi (K := K) rfl) rfl (T.free (by decide)) boot_isinstance (pa_cons (pv 0) (pa_cons (pe_bltn (v := .ty "tuple") rfl (T.free (by decide)) boot_tuple rfl) pa_nil))))) (pw_or1 (pt_cmpR op_gt (pe_callB (kLen (K := K) rfl) rfl (T.free (by decide)) boot_len (pa_cons (pv 0) pa_nil)) pe_int (nomark _))))) (pss_one (ps_ret pe_bl)) pss_nil)
      (pss_cons (ps_for PassesOwn.never rfl (kSeq (K := K) rfl (pv 0)) (pg_name (i := 1) nd rfl (Or.inl rfl)) (pss_cons (ps_if (PW.pt (pw_or (pt_not (kTruth (K := K) rfl (pe_callB (kIsi (K := K) rfl) rfl (T.free (by decide)) boot_isinstance (pa_cons (pv 1) (pa_cons (pe_bltn (v := .ty "tuple") rfl (T.free (by decide)) boot_tuple rfl) pa_nil))))) (pw_or (pt_cmpR op_lt (pe_callB (kLen (K := K) rfl) rfl (T.free (by decide)) boot_len (pa_cons (pv 1) pa_nil)) pe_int (nomark _)) (pw_or1 (pt_cmpR (kNotIn (K := K) rfl) (pe_ix (kIx (K := K) rfl) (pv 1) pe_int (fun _ _ => rfl)) (pe_tup (pa_cons pe_str (pa_cons pe_str pa_nil))) rfl))))) (pss_one (ps_ret pe_bl)) pss_nil)
      (pss_cons (ps_if (PW.pt (pw_or (pt_cmpR (kNe (K := K) rfl hr.units) (pe_callB (kLen (K := K) rfl) rfl (T.free (by decide)) boot_len (pa_cons (pv 1) pa_nil)) (pe_op (kAdd (K := K) rfl) pe_int (pe_callTy call_int1 rfl (T.free (by decide)) boot_int (pa_cons (pe_cmpR (kEq (K := K) rfl hr.units) (pe_ix (kIx (K := K) rfl) (pv 1) pe_int (fun _ _ => rfl)) pe_str (nomark _)) pa_nil))) (nomark _)) (pw_or1 (pt_not (kTruth (K := K) rfl (pe_has h__law_is_sum hr (by omega) rfl pass0 (pa_cons (pe_ix (kIx (K := K) rfl) (pv 1) (pe_un un_neg pe_int) (fun _ _ => rfl)) (pa_cons pe_int pa_nil)))))))) (pss_one (ps_ret pe_bl)) pss_nil)
      (pss_one (ps_if (PW.pt (pw_and (pt_cmpR (kEq (K := K) rfl hr.units) (pe_ix (kIx (K := K) rfl) (pv 1) pe_int (fun _ _ => rfl)) pe_str (nomark _)) (pw_and1 (pt_not (PW.pt (pw_and (kTruth (K := K) rfl (pe_callB (kIsi (K := K) rfl) rfl (T.free (by decide)) boot_isinstance (pa_cons (pe_ix (kIx (K := K) rfl) (pv 1) pe_int (fun _ _ => rfl)) (pa_cons (pe_bltn (v := .ty "str") rfl (T.free (by decide)) boot_str rfl) pa_nil)))) (pw_and1 (kTruth (K := K) rfl (pe_has h__law_is_name hr (by omega) rfl pass0 (pa_cons (pe_ix (kIx (K := K) rfl) (pv 1) pe_int (fun _ _ => rfl)) pa_nil)))))))))) (pss_one (ps_ret pe_bl)) pss_nil)))))
      (pss_one (ps_ret pe_bl)))), ?_⟩
  have k : Rt K H0 H (.bool (isSource a)) Q := k
  cases hT : isT a "tuple" with
  | false =>
    refine s_yes (et_or (a := true) (b := true) (et_not (a := false) (et_is (et_b (ev_isi (evd_var d0) (by decide))) hT)) fun z => nomatch z) x fun H1 e1 => (k.go e1).ret (x.trans e1) evd_bl (congrArg PyData.bool (Eq.symm ?_))
    cases a <;> first | rfl | simp [isT, tyN] at hT
  | true =>
    obtain rfl : a = .tuple rs := by
      rcases hx with hx | ⟨_, hx⟩
      · exact hx
      · rw [hx] at hT
        cases hT
    refine s_ifD (b := decide ((8 : Int) < (rs.length : Int))) (et_or (a := false) (et_not (a := true) (et_is (et_b (ev_isi (evd_var d0) (by decide))) hT)) fun _ => et_test (ev_I0 (K := K) (evd_i (ev_lenT (evd_var d0))) evd_int)) x (fun hb H1 e1 => (k.go e1).ret (x.trans e1) evd_bl (congrArg PyData.bool (Eq.symm ?_))) fun hb H1 e1 => ?_
    · have hb := of_decide_eq_true hb
      show (decide (rs.length ≤ 8) && _) = false
      rw [decide_eq_false (by omega), Bool.false_and]
    · have hb := of_decide_eq_false hb
      refine s_forT (K := K) (evd_var d0) (x.trans e1) fun H2 Hd gr => ?_
      refine ⟨fun i σ' H' => (∃ o, σ' = [some v0, o]) ∧ Ex Hd H' ∧ Ex H1 H' ∧ (rs.take i).all isRow = true, ⟨⟨none, rfl⟩, gr.d2, gr.ex, by simp⟩, fun i σ' H' z => z.2.1, ?_, ?_⟩
      · rintro i v d σ' H' hi hv ⟨⟨o, rfl⟩, xd, xh, hall⟩
        have hm : d ∈ rs := List.mem_of_getElem? hi
        have okd := ok_tup ok hm
        have dpd := depth_tup hdp hm
        have hhd := hh d hm
        have W : Dt K H' v d := dp_ex xd _ _ hv
        have e2 : (rs.take (i + 1)).all isRow = ((rs.take i).all isRow && isRow d) := by
          rw [List.take_add_one, hi, List.all_append]
          simp
        have no : ∀ (D : Ends) (H5 : Hp), D.rt = Q → Ex H' H5 → isRow d = false → tRet (tC (.bl false)) D [some v0, some v] H5 := fun D H5 hD e5 z => Rt.retB (D := D) (K := K) (H0 := H0) (H := H) (by rw [hD]; exact k) x (e1.trans (xh.trans e5)) (evd_bl (K := K)) (congrArg PyData.bool (Eq.symm (by
          show (decide (rs.length ≤ 8) && rs.all isRow) = false
          rw [Bool.and_eq_false_iff]
          right
          rw [List.all_eq_false]
          exact ⟨d, hm, by rw [z]; simp⟩)))
        have yes : ∀ (H5 : Hp), Ex H' H5 → isRow d = true → (∃ o, [some v0, some v] = [some v0, o]) ∧ Ex Hd H5 ∧ Ex H1 H5 ∧ (rs.take (i + 1)).all isRow = true := fun H5 e5 z => ⟨⟨_, rfl⟩, xd.trans e5, xh.trans e5, by rw [e2, hall, z]; rfl⟩
        cases hD : isT d "tuple" with
        | false =>
          refine s_yes (H0 := H') (et_or (a := true) (b := true) (et_not (a := false) (et_is (et_b (ev_isi (evd_var W) (by decide))) hD)) fun z => nomatch z) (Ex.refl _) fun H5 e5 => no _ _ rfl e5 ?_
          cases d <;> first | rfl | simp [isT, tyN] at hD
        | true =>
          obtain ⟨ds, rfl⟩ := isT_tup hD
          have t0 : EvT (tNot (tTrU K (tCB (rIsi K) (tCons (tVar 1) (tCons (tC (.ty "tuple")) tNil))))) [some v0, some v] H' false := et_not (a := true) (et_is (et_b (ev_isi (evd_var W) (by decide))) hD)
          have len : Ev (tCB (rLenU K) (tCons (tVar 1) tNil)) [some v0, some v] H' (.int (ds.length : Int)) := ev_lenT (evd_var W)
          rcases ds with _ | ⟨w, _ | ⟨y, r⟩⟩
          · exact s_yes (H0 := H') (et_or (a := false) (b := true) t0 fun _ => et_or (a := true) (b := true) (et_is (et_test (ev_I0 (K := K) (evd_i len) evd_int)) rfl) fun z => nomatch z) (Ex.refl _) fun H5 e5 => no _ _ rfl e5 rfl
          · exact s_yes (H0 := H') (et_or (a := false) (b := true) t0 fun _ => et_or (a := true) (b := true) (et_is (et_test (ev_I0 (K := K) (evd_i len) evd_int)) rfl) fun z => nomatch z) (Ex.refl _) fun H5 e5 => no _ _ rfl e5 (by cases w <;> rfl)
          · skip
            have t1 : EvT (tTest (tOp (rI0 fun i j => V.bl (decide (i < j))) (tCB (rLenU K) (tCons (tVar 1) tNil)) (tC (.int 2)))) [some v0, some v] H' false := et_is (et_test (ev_I0 (K := K) (evd_i len) evd_int)) (decide_eq_false (by simp only [List.length_cons]; omega))
            have i0 : EvD K (tOp (rIx K) (tVar 1) (tC (.int 0))) [some v0, some v] H' w := evd_ixT (evd_var W) evd_int (atI_0 _ _)
            have i1 : EvD K (tOp (rIx K) (tVar 1) (tC (.int 1))) [some v0, some v] H' y := evd_ixT (evd_var W) evd_int (atI_1 _ _ _)
            have fw : flatD w = true := hhd
            have t2 : EvT (tTest (tOp (rInU K true) (tOp (rIx K) (tVar 1) (tC (.int 0))) (tTup (tCons (tC (.str "set")) (tCons (tC (.str "show")) tNil))))) [some v0, some v] H' (!inD w [.str "set", .str "show"]) := et_test (ev_inT (neg := true) i0 (evd_tup (eds_cons evd_str (eds_cons evd_str eds_nil)) (by decide)) fw rfl)
            have ei : inD w [.str "set", .str "show"] = true → w = .str "set" ∨ w = .str "show" := by
              intro z
              cases w with
              | str s =>
                have z2 := (inD_str (s := s) (l := ["set", "show"])).symm.trans z
                have z3 := of_decide_eq_true z2
                simp only [List.mem_cons, List.not_mem_nil, or_false] at z3
                rcases z3 with rfl | rfl
                · exact .inl rfl
                · exact .inr rfl
              | _ => cases z
            have en : inD w [.str "set", .str "show"] = false → isRow (.tuple (w :: y :: r)) = false := by
              intro z
              cases w with
              | str s =>
                have z2 := (inD_str (s := s) (l := ["set", "show"])).symm.trans z
                have z3 := of_decide_eq_false z2
                simp only [List.mem_cons, List.not_mem_nil, or_false, not_or] at z3
                match r with
                | [] => show (decide (s = "show") && _) = false; rw [decide_eq_false z3.2, Bool.false_and]
                | [_] => show (decide (s = "set") && _) = false; rw [decide_eq_false z3.1, Bool.false_and]
                | _ :: _ :: _ => rfl
              | _ => match r with
                | [] => rfl
                | [_] => rfl
                | _ :: _ :: _ => rfl
            refine s_ifD (H0 := H') (b := !inD w [.str "set", .str "show"]) (et_or (a := false) t0 fun _ => et_or (a := false) t1 fun _ => t2) (Ex.refl _) (fun hb5 H5 e5 => no _ _ rfl e5 (en (by simpa using hb5))) fun hb5 H5 e5 => ?_
            have eqs : ∀ (u : Str), w = .str u → okD (.str u) = true → Ev (tOp (rEqD K) (tOp (rIx K) (tVar 1) (tC (.int 0))) (tC (.str "set"))) [some v0, some v] H' (.bl (decide (u = "set"))) := fun u hu hou => by
              subst hu
              refine ev_is (ev_eq i0 evd_str (shapedS hou) (by decide +kernel)) ?_
              show V.bl (u == ("set" : Str)) = _
              congr 1
            have two : ∀ (u : Str), w = .str u → okD (.str u) = true → Ev (tOp (rAddU K) (tC (.int 2)) (tCB (fun xs H Q => (∃ i, xs = [.int i] ∧ Q (.int i) H) ∨ ∃ k, xs = [.bl k] ∧ Q (.int (if k then 1 else 0)) H) (tCons (tOp (rEqD K) (tOp (rIx K) (tVar 1) (tC (.int 0))) (tC (.str "set"))) tNil))) [some v0, some v] H' (.int (2 + if decide (u = "set") then 1 else 0)) := fun u hu hou => ev_int (K := K) (ev_addI evd_int (evd_i (ev_intB (eqs u hu hou))))
            rcases ei (by simpa using hb5) with rfl | rfl
            · have q1 := ev_is (eqs "set" rfl ok_set) (w := .bl true) (congrArg V.bl (decide_eq_true rfl))
              have q2 := ev_is (two "set" rfl ok_set) (w := .int 3) (by rw [decide_eq_true rfl] <;> rfl)
              rcases r with _ | ⟨z, _ | ⟨z2, r⟩⟩
              · exact s_yes (H0 := H') (et_or (a := true) (b := true) (et_is (et_test (ev_ne (K := K) (evd_i len) (evd_i q2) rfl rfl)) rfl) fun z => nomatch z) e5 fun H6 e6 => no _ _ rfl (e5.trans e6) (by show (decide (("set" : Str) = "show") && isSum 6 y) = false; rw [decide_eq_false (by decide +kernel)]; rfl)
              · have il : EvD K (tOp (rIx K) (tVar 1) (tUn (rU fun i => .int (-i)) (tC (.int 1)))) [some v0, some v] H' z := evd_ixT (evd_var W) (evd_i (ev_un (x := .int 1) ev_c ru_neg)) (atI_last [.str "set", y] z)
                have er : isRow (.tuple [.str "set", y, z]) = (isName y && isSum 6 z) := by show (decide (("set" : Str) = "set") && (isName y && isSum 6 z)) = (isName y && isSum 6 z); rw [decide_eq_true rfl, Bool.true_and]
                refine s_ifD (H0 := H') (b := !isSum 6 z) (et_or (a := false) (et_is (et_test (ev_ne (K := K) (evd_i len) (evd_i q2) rfl rfl)) rfl) fun _ => et_not (et_b (ev_bl (evd_call (eds_cons il (eds_cons evd_int eds_nil)) ⟨z, rfl, ok_tup okd (by simp), depth_tup dpd (by simp), rfl⟩)))) e5 (fun hb6 H6 e6 => no _ _ rfl (e5.trans e6) (by rw [er]; simp at hb6; rw [hb6, Bool.and_false])) fun hb6 H6 e6 => ?_
                have hz6 : isSum 6 z = true := by simpa using hb6
                cases hy : isT y "str" with
                | false =>
                  refine s_yes (H0 := H') (et_and (a := true) (b := true) (et_test q1) fun _ => et_not (a := false) (et_and (a := false) (b := false) (et_is (et_b (ev_isi i1 (by decide))) hy) fun z => nomatch z)) (e5.trans e6) fun H7 e7 => no _ _ rfl ((e5.trans e6).trans e7) ?_
                  rw [er]
                  cases y <;> first | rfl | simp [isT, tyN] at hy
                | true =>
                  obtain ⟨u, rfl⟩ := isT_str hy
                  refine s_ifD (H0 := H') (b := !nameS u) (et_and (a := true) (et_test q1) fun _ => et_not (et_and (a := true) (b := nameS u) (et_is (et_b (ev_isi i1 (by decide))) hy) fun _ => et_b (ev_bl (evd_call (eds_cons i1 eds_nil) ⟨u, rfl, ok_tup okd (by simp), rfl⟩)))) (e5.trans e6) (fun hb7 H7 e7 => no _ _ rfl ((e5.trans e6).trans e7) ?_) fun hb7 H7 e7 => yes _ ((e5.trans e6).trans e7) ?_
                  · rw [er]
                    show (nameS u && _) = false
                    simp at hb7
                    rw [hb7, Bool.false_and]
                  · rw [er]
                    show (nameS u && _) = true
                    simp at hb7
                    rw [hb7, hz6]
                    rfl
              · exact s_yes (H0 := H') (et_or (a := true) (b := true) (et_is (et_test (ev_ne (K := K) (evd_i len) (evd_i q2) rfl rfl)) (by show (!((((r.length + 1 + 1 + 1 + 1 : Nat) : Int)) == 3)) = true; simp; omega)) fun z => nomatch z) e5 fun H6 e6 => no _ _ rfl (e5.trans e6) rfl
            · have q1 := ev_is (eqs "show" rfl ok_show) (w := .bl false) (congrArg V.bl (decide_eq_false (by decide +kernel)))
              have q2 := ev_is (two "show" rfl ok_show) (w := .int 2) (by rw [decide_eq_false (by decide +kernel)] <;> rfl)
              rcases r with _ | ⟨z, r⟩
              · have il : EvD K (tOp (rIx K) (tVar 1) (tUn (rU fun i => .int (-i)) (tC (.int 1)))) [some v0, some v] H' y := evd_ixT (evd_var W) (evd_i (ev_un (x := .int 1) ev_c ru_neg)) (atI_last [.str "show"] y)
                have er : isRow (.tuple [.str "show", y]) = isSum 6 y := by show (decide (("show" : Str) = "show") && isSum 6 y) = isSum 6 y; rw [decide_eq_true rfl, Bool.true_and]
                refine s_ifD (H0 := H') (b := !isSum 6 y) (et_or (a := false) (et_is (et_test (ev_ne (K := K) (evd_i len) (evd_i q2) rfl rfl)) rfl) fun _ => et_not (et_b (ev_bl (evd_call (eds_cons il (eds_cons evd_int eds_nil)) ⟨y, rfl, ok_tup okd (by simp), depth_tup dpd (by simp), rfl⟩)))) e5 (fun hb6 H6 e6 => no _ _ rfl (e5.trans e6) (by rw [er]; simpa using hb6)) fun hb6 H6 e6 => ?_
                exact s_nay (H0 := H') (et_and (a := false) (b := false) (et_test q1) fun z => nomatch z) (e5.trans e6) fun H7 e7 => yes _ ((e5.trans e6).trans e7) (by rw [er]; simpa using hb6)
              · refine s_yes (H0 := H') (et_or (a := true) (b := true) (et_is (et_test (ev_ne (K := K) (evd_i len) (evd_i q2) rfl rfl)) (by show (!((((r.length + 1 + 1 + 1 : Nat) : Int)) == 2)) = true; simp; omega)) fun z => nomatch z) e5 fun H6 e6 => no _ _ rfl (e5.trans e6) ?_
                match r with
                | [] => show (decide (("show" : Str) = "set") && (isName y && isSum 6 z)) = false; rw [decide_eq_false (by decide +kernel)]; rfl
                | _ :: _ => rfl
      · rintro σ' H' ⟨⟨o, rfl⟩, xd, xh, hall⟩
        rw [List.take_length] at hall
        show tRet (tC (.bl true)) { nx := fun _ H' => Q .non H', rt := Q } [some v0, o] H'
        refine k.retB x (e1.trans xh) (evd_bl (K := K)) (congrArg PyData.bool ?_)
        show true = (decide (rs.length ≤ 8) && rs.all isRow)
        rw [hall, decide_eq_true (by omega)]
        rfl
theorem sc_law_is_name : FnScope ["text", "sign"] ["text"] (defScope s_law_is_name) := ⟨rfl, rfl, rfl, by decide +kernel, rfl, by decide +kernel, by decide +kernel⟩
theorem ok_law_is_name {f : Addr} {fd : FuncData} (F : FnP K "_law_is_name" "_law_is_name" s_law_is_name f fd) (g : mg "_law_is_name" = some (.ref f)) (T : Tx mg)  : Has P w K mg base CX0 1 "_law_is_name" ["text"] (spD K F_kname) := by
  have nd := (sc_law_is_name).nd
  refine has_d (FF := F_kname) F g (F.bindsN fun _ _ _ _ _ _ us hl => match us, hl with | [_], _ => rfl) sc_law_is_name (by rintro _ _ ⟨_, rfl, _⟩; rfl) (fun cdv A outer s H vs Q E ds d H0 hr x hd hf k => ?_)
  obtain ⟨z, rfl, ok, rfl⟩ := hf
  obtain ⟨v0, rfl, d0⟩ := dts1 hd
  refine ⟨_, (pss_cons (ps_if (PW.pt (pw_or (pt_cmpR (kIn (K := K) rfl) (pv 0) (pe_tup (pa_cons pe_str (pa_cons pe_str (pa_cons pe_str (pa_cons pe_str (pa_cons pe_str (pa_cons pe_str (pa_cons pe_str pa_nil)))))))) rfl) (pw_or1 (pt_not (pt_chain op_le op_le pe_int (pe_callB (kLen (K := K) rfl) rfl (T.free (by decide)) boot_len (pa_cons (pv 0) pa_nil)) pe_int))))) (pss_one (ps_ret pe_bl)) pss_nil)
      (pss_one (ps_ret (pe_cmpR (kEq (K := K) rfl hr.units) (pe_lc (own := [("sign", 1)]) rfl nd (kSeq (K := K) rfl (pv 0)) (blkOk_by (N := ["text", "sign"]) (sc := defScope s_law_is_name) (own := [("sign", 1)]) (by decide +kernel)) (fun _ _ _ _ _ => (pg_name (i := 1) nd rfl (Or.inl rfl))) (fun _ _ _ _ _ => (pts_one (pt_not (pt_chain kLeS kLeS pe_str (pv 1) pe_str)))) (fun _ _ _ _ _ => (pv 1))) (pe_lst pa_nil) (nomark _))))), ?_⟩
  have k : Rt K H0 H (.bool (nameS z)) Q := k
  have hz := ok_str ok
  refine s_ifD (b := decide (z ∈ barred7) || !(decide ((1 : Int) ≤ (z.length : Int)) && decide ((z.length : Int) ≤ 4))) (et_or (et_is (et_test (ev_inT (neg := false) (evd_var d0) (evd_is (d' := .tuple (barred7.map PyData.str)) (evd_tup (eds_cons evd_str (eds_cons evd_str (eds_cons evd_str (eds_cons evd_str (eds_cons evd_str (eds_cons evd_str (eds_cons evd_str eds_nil))))))) (by decide)) rfl) rfl (flat_strs _))) (by simp [inD_str])) fun _ => et_not (et_chain (K := K) (p := fun i j => decide (i ≤ j)) (q := fun i j => decide (i ≤ j)) evd_int (evd_i (ev_lenS (evd_var d0) (sz_of hz))) evd_int)) x (fun hb H1 e1 => ?_) fun hb H1 e1 => ?_
  · refine (k.go e1).ret (x.trans e1) evd_bl (congrArg PyData.bool (Eq.symm ?_))
    unfold nameS
    rw [Bool.or_eq_true] at hb
    rcases hb with hb | hb
    · by_cases hl : z.length ≤ 4
      · rw [name7 z hl] at hb
        rw [hb]
        simp
      · rw [decide_eq_false hl]
        simp
    · have q : (decide (1 ≤ z.length) && decide (z.length ≤ 4)) = false := by
        rw [Bool.not_eq_true', Bool.and_eq_false_iff] at hb
        rw [Bool.and_eq_false_iff]
        simp only [decide_eq_false_iff_not] at hb ⊢
        omega
      rw [q, Bool.false_and]
  · rw [Bool.or_eq_false_iff, Bool.not_eq_false'] at hb
    have hl : (decide (1 ≤ z.length) && decide (z.length ≤ 4)) = true := by
      have := hb.2
      rw [Bool.and_eq_true] at this ⊢
      simp only [decide_eq_true_eq] at this ⊢
      omega
    have hl4 : z.length ≤ 4 := by
      rw [Bool.and_eq_true] at hl
      exact of_decide_eq_true hl.2
    have hb7 := hb.1
    rw [name7 z hl4] at hb7
    have okl : ∀ d ∈ ((z.cps.toList.filter fun c => !decide (c ∈ smallS.cps.toList)).map fun c => PyData.str ⟨#[c]⟩), okD d = true := by
      intro d hd
      obtain ⟨c, hc, rfl⟩ := List.mem_map.mp hd
      exact ok_sign ok (List.mem_filter.mp hc).1
    refine (k.go e1).ret (x.trans e1) (evd_b (ev_eq (evd_lcS (fun c => !decide (c ∈ smallS.cps.toList)) (fun c => .str ⟨#[c]⟩) (evd_var d0) (by omega) (fun _ => rfl) (fun c H1 _ _ => et_not (et_is (et_test (ev_chainS (K := K) evd_str (evd_var (.str _)) evd_str)) (small_le c))) fun c H1 _ _ _ => evd_var (.str _)) (evd_lst eds_nil (by decide)) (shaped_of (ok_lst_of okl) ?_) rfl)) (congrArg PyData.bool ?_)
    · refine Nat.le_trans (depth_list (n := 0) fun d hd => ?_) (by decide)
      obtain ⟨c, hc, rfl⟩ := List.mem_map.mp hd
      unfold PyData.depth
      omega
    · rw [eqv_nil]
      unfold nameS
      rw [hl, hb7, Bool.true_and, Bool.not_false, Bool.true_and, List.isEmpty_map, Bool.eq_iff_iff, List.isEmpty_iff, List.filter_eq_nil_iff, List.all_eq_true]
      simp
theorem sc_law_is_sum : FnScope ["thing", "deep", "sizes", "part"] ["thing", "deep"] (defScope s_law_is_sum) := ⟨rfl, rfl, rfl, by decide +kernel, rfl, by decide +kernel, by decide +kernel⟩
theorem step_law_is_sum {f : Addr} {fd : FuncData} (F : FnP K "_law_is_sum" "_law_is_sum" s_law_is_sum f fd) (g : mg "_law_is_sum" = some (.ref f)) (T : Tx mg) (n : Nat) (h__law_is_sum : Has P w K mg base CX0 (n + 1) "_law_is_sum" ["thing", "deep"] (spD K (Fprev F_ksum n))) (h__law_is_name : Has P w K mg base CX0 1 "_law_is_name" ["text"] (spD K F_kname)) : HasF P w K mg base CX0 (n + 2) "_law_is_sum" ["thing", "deep"] (spD K (F_ksum n)) f fd := by
  have nd := (sc_law_is_sum).nd
  refine hasF_d (FF := F_ksum n) F g (F.bindsN fun _ _ _ _ _ _ us hl => match us, hl with | [_, _], _ => rfl) sc_law_is_sum (by rintro _ _ ⟨_, rfl, _⟩; rfl) (fun cdv A outer s H vs Q E ds d H0 hr x hd hf k => ?_)
  obtain ⟨a, rfl, ok, hdp, rfl⟩ := hf
  obtain ⟨v0, v1, rfl, d0, d1⟩ := dts2 hd
  refine ⟨_, (pss_cons (ps_if (kTruth (K := K) rfl (pe_callB (kIsi (K := K) rfl) rfl (T.free (by decide)) boot_isinstance (pa_cons (pv 0) (pa_cons (pe_bltn (v := .ty "str") rfl (T.free (by decide)) boot_str rfl) pa_nil)))) (pss_one (ps_ret (pe_has h__law_is_name hr (by omega) rfl pass0 (pa_cons (pv 0) pa_nil)))) pss_nil)
      (pss_cons (ps_if (pt_not (kTruth (K := K) rfl (pe_callB (kIsi (K := K) rfl) rfl (T.free (by decide)) boot_isinstance (pa_cons (pv 0) (pa_cons (pe_bltn (v := .ty "tuple") rfl (T.free (by decide)) boot_tuple rfl) pa_nil))))) (pss_one (ps_ret (pe_and (pe_callB (kIsi (K := K) rfl) rfl (T.free (by decide)) boot_isinstance (pa_cons (pv 0) (pa_cons (pe_bltn (v := .ty "int") rfl (T.free (by decide)) boot_int rfl) pa_nil))) (pe_and (kNot (K := K) rfl (pe_callB (kIsi (K := K) rfl) rfl (T.free (by decide)) boot_isinstance (pa_cons (pv 0) (pa_cons (pe_bltn (v := .ty "bool") rfl (T.free (by decide)) boot_bool rfl) pa_nil)))) (pe_one (pe_chain op_le op_le pe_int (pv 0) pe_int)))))) pss_nil)
      (pss_cons (ps_set (i := 2) nd rfl (Or.inl rfl) (pe_disp (pps_cons pe_str pe_int (pps_cons pe_str pe_int (pps_cons pe_str pe_int (pps_cons pe_str pe_int (pps_cons pe_str pe_int (pps_cons pe_str pe_int pps_nil)))))) rfl rfl (by simp) (by decide)))
      (pss_cons (ps_if (PW.pt (pw_or (pt_cmpR op_gt (pv 1) pe_int (nomark _)) (pw_or (pt_cmpR (kEq (K := K) rfl hr.units) (pv 0) (pe_tup pa_nil) (nomark _)) (pw_or (pt_not (kTruth (K := K) rfl (pe_callB (kIsi (K := K) rfl) rfl (T.free (by decide)) boot_isinstance (pa_cons (pe_ix (kIx (K := K) rfl) (pv 0) pe_int (fun _ _ => rfl)) (pa_cons (pe_bltn (v := .ty "str") rfl (T.free (by decide)) boot_str rfl) pa_nil))))) (pw_or1 (pt_cmpR (kNe (K := K) rfl hr.units) (pe_callB (kLen (K := K) rfl) rfl (T.free (by decide)) boot_len (pa_cons (pv 0) pa_nil)) (pe_dget2 (Nat.lt_of_le_of_lt (Nat.add_le_add_left (by decide) _) hr.units) (pv 2) (pe_ix (kIx (K := K) rfl) (pv 0) pe_int (fun _ _ => rfl)) pe_int ⟨rfl, rfl, rfl, rfl⟩) (nomark _))))))) (pss_one (ps_ret pe_bl)) pss_nil)
      (pss_one (ps_ret (pe_cmpR (kEq (K := K) rfl hr.units) (pe_lc (own := [("part", 3)]) rfl nd (kSeq (K := K) rfl (pe_slice (kSl (K := K) rfl) (pv 0) (po_some pe_int) po_none)) (blkOk_by (N := ["thing", "deep", "sizes", "part"]) (sc := defScope s_law_is_sum) (own := [("part", 3)]) (by decide +kernel)) (fun _ _ _ _ _ => (pg_name (i := 3) nd rfl (Or.inl rfl))) (fun _ _ _ _ _ => (pts_one (pt_not (kTruth (K := K) rfl (pe_has h__law_is_sum hr (by omega) rfl pass0 (pa_cons (pv 3) (pa_cons (pe_op (kAdd (K := K) rfl) (pv 1) pe_int) pa_nil))))))) (fun _ _ _ _ _ => (pv 3))) (pe_lst pa_nil) (nomark _)))))))), ?_⟩
  have k : Rt K H0 H (.bool (isSum n a)) Q := k
  cases hS : isT a "str" with
  | true =>
    obtain ⟨z, rfl⟩ := isT_str hS
    refine s_yes (et_is (et_b (ev_isi (evd_var d0) (by decide))) hS) x fun H1 e1 => ?_
    refine (k.go e1).ret (x.trans e1) (evd_call (eds_cons (evd_var d0) eds_nil) ⟨_, rfl, ok, rfl⟩) ?_
    cases n <;> rfl
  | false =>
    refine s_nay (et_is (et_b (ev_isi (evd_var d0) (by decide))) hS) x fun H1 e1 => ?_
    cases hT : isT a "tuple" with
    | false =>
      refine s_yes (et_not (a := false) (et_is (et_b (ev_isi (evd_var d0) (by decide))) hT)) (x.trans e1) fun H2 e2 => ?_
      refine ((k.go e1).go e2).ret ((x.trans e1).trans e2) (evd_is (d := .bool (isT a "int" && (!isT a "bool" && isWithin a 0 9999))) (evd_b (ev_andV (ev_isi (evd_var d0) (by decide)) fun e1 => ev_andV (ev_notB (ev_isi (evd_var d0) (by decide))) fun e2 => ?_)) (congrArg PyData.bool (within_eq a 0 9999))) ?_
      · obtain ⟨i, rfl⟩ : ∃ i, a = .int i := by
          cases a <;> simp [isT, tyN] at e1 e2
          exact ⟨_, rfl⟩
        exact ev_chain (K := K) (p := fun i j => decide (i ≤ j)) (q := fun i j => decide (i ≤ j)) evd_int (evd_var d0) evd_int
      · rw [isSum_nontup hS hT]
    | true =>
      refine s_nay (et_not (a := true) (et_is (et_b (ev_isi (evd_var d0) (by decide))) hT)) (x.trans e1) fun H2 e2 => ?_
      obtain ⟨ds, rfl⟩ := isT_tup hT
      refine s_sizes fun p H3 e3 hp => ?_
      have x3 := ((x.trans e1).trans e2).trans e3
      have y3 := (e1.trans e2).trans e3
      have D0 := dp_ex x3 _ _ d0
      have D1 := dp_ex x3 _ _ d1
      dsimp only
      have no : ∀ {H4 : Hp}, Ex H3 H4 → isSum n (.tuple ds) = false → tRet (tC (.bl false)) { nx := fun _ H' => Q .non H', rt := Q } ((start ["thing", "deep", "sizes", "part"] [v0, v1]).set 2 (some (.ref p))) H4 := fun e4 z => k.retB x (y3.trans e4) (evd_bl (K := K)) (congrArg PyData.bool z.symm)
      cases n with
      | zero =>
        refine s_yes (H0 := H3) (et_or (a := true) (b := true) (et_test (ev_is (ev_I0 (K := K) (evd_var D1) evd_int) rfl)) fun z => nomatch z) (Ex.refl _) fun H4 e4 => no e4 (by simp [isSum])
      | succ m =>
        have t1 : EvT (tTest (tOp (rI0 fun i j => V.bl (decide (j < i))) (tVar 1) (tC (.int 5)))) ((start ["thing", "deep", "sizes", "part"] [v0, v1]).set 2 (some (.ref p))) H3 false := et_test (ev_is (ev_I0 (K := K) (evd_var D1) evd_int) (by show V.bl (decide ((5 : Int) < 6 - ((m + 1 : Nat) : Int))) = _; rw [decide_eq_false (by omega)]))
        have eqn : Ev (tOp (rEqD K) (tVar 0) (tTup tNil)) ((start ["thing", "deep", "sizes", "part"] [v0, v1]).set 2 (some (.ref p))) H3 (.bl ds.isEmpty) := by
          rw [← eqv_unit]
          exact ev_eq (evd_var D0) (evd_tup eds_nil (by decide)) (shaped_of ok (Nat.le_trans hdp (by decide))) rfl
        cases ds with
        | nil =>
          refine s_yes (H0 := H3) (et_or (a := false) (b := true) t1 fun _ => et_or (a := true) (b := true) (et_test eqn) fun z => nomatch z) (Ex.refl _) fun H4 e4 => no e4 ?_
          rfl
        | cons w r =>
          have i0 : EvD K (tOp (rIx K) (tVar 0) (tC (.int 0))) ((start ["thing", "deep", "sizes", "part"] [v0, v1]).set 2 (some (.ref p))) H3 w := evd_ixT (evd_var D0) evd_int (atI_0 _ _)
          cases hw : isT w "str" with
          | false =>
            refine s_yes (H0 := H3) (et_or (a := false) (b := true) t1 fun _ => et_or (a := false) (b := true) (et_test eqn) fun _ => et_or (a := true) (b := true) (et_not (a := false) (et_is (et_b (ev_isi i0 (by decide))) hw)) fun z => nomatch z) (Ex.refl _) fun H4 e4 => no e4 ?_
            cases w <;> first | rfl | simp [isT, tyN] at hw
          | true =>
            obtain ⟨z, rfl⟩ := isT_str hw
            refine s_ifD (H0 := H3) (b := !sumHead z (r.length + 1)) (et_or (a := false) t1 fun _ => et_or (a := false) (et_test eqn) fun _ => et_or (a := false) (et_not (a := true) (et_is (et_b (ev_isi i0 (by decide))) hw)) fun _ => et_is (et_test (ev_ne (evd_i (ev_lenT (evd_var D0))) (evd_i (ev_sizeGet (K := K) rfl hp i0)) rfl rfl)) ?_) (Ex.refl _) (fun hb H4 e4 => ?_) fun hb H4 e4 => ?_
            · rw [← size_head] <;> rfl
            · refine no e4 ?_
              rw [Bool.not_eq_true'] at hb
              show (sumHead z (r.length + 1) && _) = false
              rw [hb, Bool.false_and]
            · rw [Bool.not_eq_false'] at hb
              have hlen : r.length ≤ 3 := by
                unfold sumHead at hb
                simp at hb
                omega
              have okr : ∀ d ∈ r, okD d = true := fun d hd => ok_tup ok (List.mem_cons_of_mem _ hd)
              have dpr : ∀ d ∈ r, d.depth ≤ 60 := fun d hd => depth_tup hdp (List.mem_cons_of_mem _ hd)
              have D0' := dp_ex e4 _ _ D0
              have sl : EvD K (tSl (rSlU K) (tVar 0) (tPart (tC (.int 1))) tNoPart) ((start ["thing", "deep", "sizes", "part"] [v0, v1]).set 2 (some (.ref p))) H4 (.tuple r) := evd_is (evd_slT (evd_var D0') (eo_i (K := K) evd_int) eo_none) (congrArg PyData.tuple (cut_tail _ _))
              refine k.retB x (y3.trans e4) (evd_b (ev_eq (evd_lcT (fun d => !isSum m d) id sl (by omega) (fun _ => rfl) (fun v d H5 e5 hm hv => et_not (et_b (ev_bl (evd_call (eds_cons (evd_var hv) (eds_cons (evd_is (d' := .int (6 - (m : Int))) (ev_addI (evd_var (dp_ex (e4.trans e5) _ _ D1)) evd_int) ?_) eds_nil)) ⟨d, rfl, okr d hm, dpr d hm, rfl⟩)))) fun v d H5 _ _ _ hv => evd_var hv) (evd_lst eds_nil (by decide)) (shaped_of (ok_lst_of ?_) ?_) rfl)) (congrArg PyData.bool ?_)
              · congr 1
                omega
              · intro d hd
                rw [List.map_id] at hd
                exact okr d (List.mem_filter.mp hd).1
              · refine Nat.le_trans (depth_list (n := 60) fun d hd => ?_) (by decide)
                rw [List.map_id] at hd
                exact dpr d (List.mem_filter.mp hd).1
              · rw [eqv_nil]
                show (List.map id (r.filter fun d => !isSum m d)).isEmpty = (sumHead z (r.length + 1) && r.all (isSum m))
                rw [hb, Bool.true_and, List.isEmpty_map, Bool.eq_iff_iff, List.isEmpty_iff, List.filter_eq_nil_iff, List.all_eq_true]
                simp
theorem all_law_is_sum {f : Addr} {fd : FuncData} (F : FnP K "_law_is_sum" "_law_is_sum" s_law_is_sum f fd) (g : mg "_law_is_sum" = some (.ref f)) (T : Tx mg)  (h__law_is_name : Has P w K mg base CX0 1 "_law_is_name" ["text"] (spD K F_kname)) : ∀ n : Nat, HasF P w K mg base CX0 (n + 2) "_law_is_sum" ["thing", "deep"] (spD K (F_ksum n)) f fd
  | 0 => step_law_is_sum F g T 0 (h__law_is_sum := has_never F g (F.bindsN fun _ _ _ _ _ _ us hl => match us, hl with | [_, _], _ => rfl) _ fun _ _ z => z) (h__law_is_name := h__law_is_name)
  | n + 1 => step_law_is_sum F g T (n + 1) (h__law_is_sum := (all_law_is_sum F g T (h__law_is_name := h__law_is_name) n).has) (h__law_is_name := h__law_is_name)
theorem ok_law_is_sum {f : Addr} {fd : FuncData} (F : FnP K "_law_is_sum" "_law_is_sum" s_law_is_sum f fd) (g : mg "_law_is_sum" = some (.ref f)) (T : Tx mg)  (h__law_is_name : Has P w K mg base CX0 1 "_law_is_name" ["text"] (spD K F_kname)) : Has P w K mg base CX0 8 "_law_is_sum" ["thing", "deep"] (spD K (F_ksum 6)) :=
  (all_law_is_sum F g T (h__law_is_name := h__law_is_name) 6).has
theorem sc_law_of_source : FnScope ["way", "source"] ["way", "source"] (defScope s_law_of_source) := ⟨rfl, rfl, rfl, by decide +kernel, rfl, by decide +kernel, by decide +kernel⟩
theorem ok_law_of_source {f : Addr} {fd : FuncData} (F : FnP K "_law_of_source" "_law_of_source" s_law_of_source f fd) (g : mg "_law_of_source" = some (.ref f)) (T : Tx mg) {c_BadSource : Addr} (h_reads : Has P w K mg base (L2.CX P w) 12 "reads" ["source"] (spDX K c_BadSource F_reads)) (h_shown : Has P w K mg base (L2.CX P w) 12 "shown" ["source"] (spDX K c_BadSource F_none)) (h_sets : Has P w K mg base (L2.CX P w) 12 "sets" ["source"] (spDX K c_BadSource F_sets)) : Has P w K mg base (L2.CX P w) 13 "_law_of_source" ["way", "source"] (spDX K c_BadSource F_kof) := by
  have nd := (sc_law_of_source).nd
  refine has_x F g (F.bindsN fun _ _ _ _ _ _ us hl => match us, hl with | [_, _], _ => rfl) sc_law_of_source (by rintro _ _ _ _ ⟨_, _, _, _, hd, ⟨_, _, rfl, _⟩, _⟩; exact dpAll_len hd) (fun cdv A outer s H vs Q E hr h => ?_)
  obtain ⟨_, o, H0, x, hd, ⟨i, d, rfl, ok, hn, rfl⟩, k1, k2⟩ := h
  obtain ⟨v0, v1, rfl, d0, d1⟩ := dts2 hd
  refine ⟨_, (pss_cons (ps_if (pt_cmpR (kEq (K := K) rfl hr.units) (pv 0) pe_int (nomark _)) (pss_one (ps_ret (pe_has h_sets hr (by omega) rfl (passes_call (takes_of rfl rfl rfl rfl) fun _ _ _ _ h => h) (pa_cons (pv 1) pa_nil)))) pss_nil)
      (pss_one (ps_ret (pe_ifExp (pt_cmpR (kEq (K := K) rfl hr.units) (pv 0) pe_int (nomark _)) (pe_has h_reads hr (by omega) rfl (passes_call (takes_of rfl rfl rfl rfl) fun _ _ _ _ h => h) (pa_cons (pv 1) pa_nil)) (pe_has h_shown hr (by omega) rfl (passes_call (takes_of rfl rfl rfl rfl) fun _ _ _ _ h => h) (pa_cons (pv 1) pa_nil)))))), ?_⟩
  refine s_ifD (et_test (ev_eq (evd_var d0) evd_int rfl rfl)) x (fun hb H1 e1 => ?_) fun hb H1 e1 => ?_
  · exact x_call (cB := c_BadSource) (eds_cons (evd_var d1) eds_nil) (x.trans e1) ⟨d, rfl, ok, .inr ⟨hn, rfl⟩⟩ fun H2 e2 => k2 rfl H2 (e1.trans e2)
  · refine x_if (et_test (ev_eq (evd_var d0) evd_int rfl rfl)) (x.trans e1) (fun hb H2 e2 => ?_) fun hb H2 e2 => ?_
    · exact x_call (cB := c_BadSource) (eds_cons (evd_var d1) eds_nil) ((x.trans e1).trans e2) ⟨d, rfl, ok, .inr ⟨hn, rfl⟩⟩ fun H3 e3 => k2 rfl H3 ((e1.trans e2).trans e3)
    · exact x_call (cB := c_BadSource) (eds_cons (evd_var d1) eds_nil) ((x.trans e1).trans e2) ⟨d, rfl, ok, hn, rfl⟩ fun H3 e3 => k2 rfl H3 ((e1.trans e2).trans e3)
theorem sc_law : FnScope ["script", "source", "odd", "deep", "k", "bad", "at", "bads", "spoilt", "caught", "way"] ["script"] (defScope s_law) := ⟨rfl, rfl, rfl, by decide +kernel, rfl, by decide +kernel, by decide +kernel⟩
theorem ok_law {f : Addr} {fd : FuncData} (F : FnP K "law" "law" s_law f fd) (g : mg "law" = some (.ref f)) (T : Tx mg) {c_BadSource : Addr} (x_BadSource : ExcF K mg "BadSource" c_BadSource) (e_BadSource_BadSource : PySem.W.exmOne K (.ref c_BadSource) (.ref c_BadSource) = some true) (h__law_of_source : Has P w K mg base (L2.CX P w) 13 "_law_of_source" ["way", "source"] (spDX K c_BadSource F_kof)) (h__law_cell : Has P w K mg base CX0 1 "_law_cell" ["script", "k"] (spLcell K)) (h_is_source : Has P w K mg base CX0 10 "is_source" ["thing"] (spD K F_is_source)) (h__law_is_source : Has P w K mg base CX0 9 "_law_is_source" ["thing"] (spD K F_ksource)) (h__law_source : Has P w K mg base CX0 9 "_law_source" ["seed"] (spD K F_lsource)) (h__law_seed : Has P w K mg base CX0 1 "_law_seed" ["seed", "k"] (spD K F_seed)) : HasF P w K mg base CX0 14 "law" ["script"] (spLaw K) f fd := by
  have nd := (sc_law).nd
  refine hasF_p F g (F.bindsN fun _ _ _ _ _ _ us hl => match us, hl with | [_], _ => rfl) sc_law (by rintro _ _ _ _ ⟨_, _, rfl, _⟩; rfl) (fun cdv A outer s H vs Q E hr h => ?_)
  obtain ⟨a, ns, rfl, hS, hl, k⟩ := h
  refine ⟨_, (pss_cons (ps_set (i := 1) nd rfl (Or.inl rfl) (pe_has h__law_source hr (by omega) rfl pass0 (pa_cons (pe_has h__law_seed hr (by omega) rfl pass0 (pa_cons (pe_has h__law_cell hr (by omega) rfl pass0 (pa_cons (pv 0) (pa_cons pe_int pa_nil))) (pa_cons pe_int pa_nil))) pa_nil)))
      (pss_cons (ps_if (pt_cmpR op_notBl (pe_has h_is_source hr (by omega) rfl pass0 (pa_cons (pv 1) pa_nil)) pe_bl (nomark _)) (pss_one (ps_ret pe_bl)) pss_nil)
      (pss_cons (ps_set (i := 2) nd rfl (Or.inl rfl) (pe_lst (pa_cons pe_non (pa_cons pe_str (pa_cons (pe_tup pa_nil) (pa_cons (pe_tup (pa_cons pe_str pa_nil)) (pa_cons (pe_tup (pa_cons pe_str (pa_cons pe_int (pa_cons pe_int pa_nil)))) (pa_cons (pe_tup (pa_cons pe_str (pa_cons pe_str pa_nil))) (pa_cons (pe_tup (pa_cons pe_str (pa_cons pe_str (pa_cons pe_int pa_nil)))) (pa_cons (pe_tup (pa_cons pe_str (pa_cons pe_str (pa_cons pe_int pa_nil)))) pa_nil))))))))))
      (pss_cons (ps_set (i := 2) nd rfl (Or.inl rfl) (pe_op (kAdd (K := K) rfl) (pv 2) (pe_lst (pa_cons (pe_tup (pa_cons pe_str (pa_cons pe_str (pa_cons pe_int pa_nil)))) (pa_cons (pe_tup (pa_cons pe_str (pa_cons pe_int pa_nil))) (pa_cons (pe_lst (pa_cons pe_str (pa_cons pe_int pa_nil))) (pa_cons (pe_tup (pa_cons pe_int (pa_cons pe_int pa_nil))) (pa_cons (pe_tup (pa_cons pe_str (pa_cons (pe_un un_neg pe_int) pa_nil))) (pa_cons (pe_tup (pa_cons pe_str (pa_cons pe_int pa_nil))) (pa_cons (pe_tup (pa_cons pe_str (pa_cons pe_bl pa_nil))) pa_nil))))))))))
      (pss_cons (ps_set (i := 2) nd rfl (Or.inl rfl) (pe_op (kAdd (K := K) rfl) (pv 2) (pe_lst (pa_cons (pe_tup (pa_cons pe_str (pa_cons pe_str pa_nil))) (pa_cons (pe_tup (pa_cons pe_str (pa_cons (pe_tup (pa_cons pe_str (pa_cons pe_int (pa_cons pe_int pa_nil)))) pa_nil))) (pa_cons (pe_tup (pa_cons pe_str (pa_cons (pe_tup (pa_cons pe_str (pa_cons pe_int pa_nil))) pa_nil))) (pa_cons (pe_tup (pa_cons pe_str (pa_cons (pe_tup (pa_cons pe_str (pa_cons pe_int (pa_cons pe_int pa_nil)))) pa_nil))) pa_nil)))))))
      (pss_cons (ps_set (i := 2) nd rfl (Or.inl rfl) (pe_op (kAdd (K := K) rfl) (pv 2) (pe_lst (pa_cons (pe_tup (pa_cons pe_str (pa_cons (pe_lst (pa_cons pe_str (pa_cons pe_int (pa_cons pe_int pa_nil)))) pa_nil))) (pa_cons (pe_tup (pa_cons pe_str (pa_cons (pe_tup pa_nil) pa_nil))) pa_nil)))))
      (pss_cons (ps_set (i := 3) nd rfl (Or.inl rfl) pe_str)
      (pss_cons (ps_for PassesOwn.never rfl (pi_range1 rfl (T.free (by decide)) (pa_cons pe_int pa_nil)) (pg_name (i := 4) nd rfl (Or.inl rfl)) (pss_one (ps_set (i := 3) nd rfl (Or.inl rfl) (pe_tup (pa_cons pe_str (pa_cons (pv 3) (pa_cons pe_int pa_nil)))))))
      (pss_cons (ps_set (i := 2) nd rfl (Or.inl rfl) (pe_op (kAdd (K := K) rfl) (pv 2) (pe_lst (pa_cons (pe_tup (pa_cons pe_str (pa_cons (pv 3) pa_nil))) (pa_cons (pe_tup (pa_cons pe_str (pa_cons pe_non pa_nil))) (pa_cons (pe_tup (pa_cons pe_str (pa_cons pe_str (pa_cons pe_int pa_nil)))) pa_nil))))))
      (pss_cons (ps_set (i := 5) nd rfl (Or.inl rfl) (pe_ix (kIx (K := K) rfl) (pv 2) (pe_op op_mod (pe_has h__law_cell hr (by omega) rfl pass0 (pa_cons (pv 0) (pa_cons pe_int pa_nil))) pe_int) (fun _ _ => rfl)))
      (pss_cons (ps_set (i := 6) nd rfl (Or.inl rfl) (pe_op op_mod (pe_has h__law_cell hr (by omega) rfl pass0 (pa_cons (pv 0) (pa_cons pe_int pa_nil))) (pe_op (kAdd (K := K) rfl) (pe_callB (kLen (K := K) rfl) rfl (T.free (by decide)) boot_len (pa_cons (pv 1) pa_nil)) pe_int)))
      (pss_cons (ps_set (i := 7) nd rfl (Or.inl rfl) (pe_lst (pa_cons (pe_op (kAdd (K := K) rfl) (pe_op (kAdd (K := K) rfl) (pe_slice (kSl (K := K) rfl) (pv 1) po_none (po_some (pv 6))) (pe_tup (pa_cons (pv 5) pa_nil))) (pe_slice (kSl (K := K) rfl) (pv 1) (po_some (pv 6)) po_none)) (pa_cons (pe_callTy (kLst (K := K) rfl) rfl (T.free (by decide)) boot_list (pa_cons (pv 1) pa_nil)) (pa_cons (pv 5) (pa_cons (pe_op (kMul (K := K) rfl) (pe_tup (pa_cons (pe_tup (pa_cons pe_str (pa_cons pe_int pa_nil))) pa_nil)) pe_int) pa_nil))))))
      (pss_cons (ps_set (i := 8) nd rfl (Or.inl rfl) (pe_ix (kIx (K := K) rfl) (pv 7) (pe_op op_mod (pe_has h__law_cell hr (by omega) rfl pass0 (pa_cons (pv 0) (pa_cons pe_int pa_nil))) pe_int) (fun _ _ => rfl)))
      (pss_cons (ps_if (PW.pt (pw_or (pt_not (kTruth (K := K) rfl (pe_callB (kIsi (K := K) rfl) rfl (T.free (by decide)) boot_isinstance (pa_cons (pe_has h_is_source hr (by omega) rfl pass0 (pa_cons (pv 8) pa_nil)) (pa_cons (pe_bltn (v := .ty "bool") rfl (T.free (by decide)) boot_bool rfl) pa_nil))))) (pw_or1 (pt_cmpR (kNe (K := K) rfl hr.units) (pe_has h_is_source hr (by omega) rfl pass0 (pa_cons (pv 8) pa_nil)) (pe_has h__law_is_source hr (by omega) rfl pass0 (pa_cons (pv 8) pa_nil)) (nomark _))))) (pss_one (ps_ret pe_bl)) pss_nil)
      (pss_cons (ps_if (pt_cmpR op_notBl (pe_has h_is_source hr (by omega) rfl pass0 (pa_cons (pe_op (kMul (K := K) rfl) (pe_tup (pa_cons (pe_tup (pa_cons pe_str (pa_cons (pe_ix (kIx (K := K) rfl) (pv 3) pe_int (fun _ _ => rfl)) pa_nil))) pa_nil)) pe_int) pa_nil)) pe_bl (nomark _)) (pss_one (ps_ret pe_bl)) pss_nil)
      (pss_cons (ps_set (i := 9) nd rfl (Or.inl rfl) pe_int)
      (pss_cons (ps_for PassesOwn.never rfl (pi_range1 rfl (T.free (by decide)) (pa_cons pe_int pa_nil)) (pg_name (i := 10) nd rfl (Or.inl rfl)) (pss_one (ps_try_only rfl rfl ⟨rfl, by decide, Or.inl x_BadSource.g⟩ takes0 (fun W pn xe tk _ => (pss_one (ps_expr (pe_hasS h__law_of_source hr (by omega) rfl (fun σ => passAt tk σ) (pa_cons (pv 10) (pa_cons (pe_ix (kIx (K := K) rfl) (pv 7) (pe_ix (kIx (K := K) rfl) (pe_lst (pa_cons pe_int (pa_cons pe_int (pa_cons pe_int pa_nil)))) (pe_op op_mod (pe_has h__law_cell hr (by omega) rfl pass0 (pa_cons (pv 0) (pa_cons pe_int pa_nil))) pe_int) (fun _ _ => rfl)) (fun _ _ => rfl)) pa_nil)))))) (fun _ _ _ _ _ _ _ => (pss_one (ps_aug (i := 9) nd rfl (.inl rfl) pe_int ip_add))))))
      (pss_one (ps_ret (pe_cmpR (kEq (K := K) rfl hr.units) (pv 9) pe_int (nomark _))))))))))))))))))))), ?_⟩
  refine s_asgD (K := K) (H0 := H) (d := encS (lawSource (seedF (cellAt ns 0) 0))) (evd_call (eds_cons (evd_call (eds_cons (evd_cell (ev_var rfl) ev_c hS (by decide) hl) (eds_cons evd_int eds_nil)) ⟨_, _, rfl, rfl⟩) eds_nil) ⟨_, rfl, rfl⟩) (Ex.refl H) fun v1 H1 B1 g1 d1 => ?_
  have hg := lawSource_good (seedF (cellAt ns 0) 0)
  generalize lawSource (seedF (cellAt ns 0) 0) = src at *
  have hl8 := goodS_len hg
  have D1 := dp_ex g1.d2 _ _ d1
  have S1 := ex_l g1.ex hS
  dsimp only
  refine s_skip (H0 := H1) (et_is (et_test (ev_notIs (K := K) (a := true) (b := true) (evd_is (evd_call (eds_cons (evd_var D1) eds_nil) ⟨_, rfl, ok_src src hg, rfl⟩) (congrArg PyData.bool (isSource_enc src hg))) evd_bl)) rfl) (Ex.refl _) fun H2 e2 => ?_
  dsimp only
  refine s_asgD (K := K) (H0 := H2) (d := .list odd1) ?o1 (Ex.refl _) fun v3 H3 B3 g3 d3 => ?_
  case o1 =>
    refine evd_lst (ds := odd1) ?_ (by decide)
    repeat' (first | exact eds_nil | refine eds_cons ?_ ?_ | exact evd_int | exact evd_str | exact evd_non | exact evd_bl | refine evd_tup ?_ (by simp) | refine evd_lst ?_ (by simp))
  have D3 := dp_ex g3.d2 _ _ d3
  dsimp only
  refine s_asgD (K := K) (H0 := H3) (d := .list (odd1 ++ odd2)) (evd_addL (evd_var D3) ?o2 (by decide)) (Ex.refl _) fun v4 H4 B4 g4 d4 => ?_
  case o2 =>
    refine evd_lst (ds := odd2) ?_ (by decide)
    repeat' (first | exact eds_nil | refine eds_cons ?_ ?_ | exact evd_int | exact evd_str | exact evd_non | exact evd_bl | exact evd_i (ev_un (x := .int 1) ev_c ru_neg) | refine evd_tup ?_ (by simp) | refine evd_lst ?_ (by simp))
  have D4 := dp_ex g4.d2 _ _ d4
  dsimp only
  refine s_asgD (K := K) (H0 := H4) (d := .list ((odd1 ++ odd2) ++ odd3)) (evd_addL (evd_var D4) ?o3 (by decide)) (Ex.refl _) fun v5 H5 B5 g5 d5 => ?_
  case o3 =>
    refine evd_lst (ds := odd3) ?_ (by decide)
    repeat' (first | exact eds_nil | refine eds_cons ?_ ?_ | exact evd_int | exact evd_str | exact evd_non | exact evd_bl | refine evd_tup ?_ (by simp) | refine evd_lst ?_ (by simp))
  have D5 := dp_ex g5.d2 _ _ d5
  dsimp only
  refine s_asgD (K := K) (H0 := H5) (d := .list (((odd1 ++ odd2) ++ odd3) ++ odd4)) (evd_addL (evd_var D5) ?o4 (by decide)) (Ex.refl _) fun v6 H6 B6 g6 d6 => ?_
  case o4 =>
    refine evd_lst (ds := odd4) ?_ (by decide)
    repeat' (first | exact eds_nil | refine eds_cons ?_ ?_ | exact evd_int | exact evd_str | exact evd_non | exact evd_bl | refine evd_tup ?_ (by simp) | refine evd_lst ?_ (by simp))
  have D6 := dp_ex g6.d2 _ _ d6
  have X6 : Ex H1 H6 := e2.trans (g3.ex.trans (g4.ex.trans (g5.ex.trans g6.ex)))
  dsimp only
  refine s_asgD (K := K) (H0 := H6) (d := .str "a") evd_str (Ex.refl _) fun v7 H7 B7 g7 d7 => ?_
  have D7 := dp_ex g7.d2 _ _ d7
  dsimp only
  refine s_forN (K := K) (H0 := H7) (n := 7) (eds_cons evd_int eds_nil) (Ex.refl _) (by decide) (fun i σ' H' => (∃ v o, σ' = [some (.ref a), some v1, some v6, some v, o, none, none, none, none, none, none] ∧ Dt K H' v (deepD i)) ∧ Ex H7 H') (fun H8 e8 => ⟨⟨v7, none, rfl, dp_ex e8 _ _ D7⟩, e8⟩) ?_ ?_
  · rintro i σ' H' hi ⟨⟨v, o, rfl, dv⟩, x7⟩
    refine s_asgD (K := K) (H0 := H') (d := deepD (i + 1)) (evd_tup (eds_cons evd_str (eds_cons (evd_var dv) (eds_cons evd_int eds_nil))) (by simp)) (Ex.refl _) fun v8 H8 B8 g8 d8 => ?_
    exact ⟨⟨v8, _, rfl, dp_ex g8.d2 _ _ d8⟩, x7.trans g8.ex⟩
  rintro σ8 H8 ⟨⟨v8, o8, rfl, D8⟩, x7⟩
  have X8 : Ex H6 H8 := g7.ex.trans x7
  refine s_asgD (K := K) (H0 := H8) (d := .list oddD) (evd_addL (evd_var (dp_ex X8 _ _ D6)) ?o5 (by decide)) (Ex.refl _) fun v9 H9 B9 g9 d9 => ?_
  case o5 =>
    refine evd_lst (ds := odd5) ?_ (by decide)
    repeat' (first | exact eds_nil | refine eds_cons ?_ ?_ | exact evd_int | exact evd_str | exact evd_non | exact evd_bl | exact evd_var D8 | refine evd_tup ?_ (by simp) | refine evd_lst ?_ (by simp))
  have D9 := dp_ex g9.d2 _ _ d9
  have X9 : Ex H1 H9 := X6.trans (X8.trans g9.ex)
  have E9 := dp_ex g9.ex _ _ D8
  have S9 := ex_l X9 S1
  have F9 := dp_ex X9 _ _ D1
  dsimp only
  have m24 := mod_lt10 (cellAt ns 1) 24 (by omega)
  refine s_asgD (K := K) (H0 := H9) (d := oddD.getD (cellAt ns 1 % 24).toNat .none) (evd_ixL (evd_var D9) (evd_i (ev_I (K := K) (C := fun _ j => 0 < j) (g := fun i j => .int (i % j)) (evd_cell (ev_var rfl) ev_c S9 (by decide) hl) evd_int (by decide))) (getD_atI oddD (cellAt ns 1 % 24) PyData.none m24.1 (by rw [odd_len]; omega))) (Ex.refl _) fun v10 H10 B10 g10 d10 => ?_
  have hbad : badOk (oddD.getD (cellAt ns 1 % 24).toNat .none) = true := by
    rw [List.getD_eq_getElem?_getD]
    have hlt : (cellAt ns 1 % 24).toNat < oddD.length := by rw [odd_len]; omega
    rw [List.getElem?_eq_getElem hlt]
    exact List.all_eq_true.mp odd_ok _ (List.getElem_mem hlt)
  generalize oddD.getD (cellAt ns 1 % 24).toNat .none = bad at *
  have D10 := dp_ex g10.d2 _ _ d10
  have S10 := ex_l g10.ex S9
  have F10 := dp_ex g10.ex _ _ F9
  have E10 := dp_ex g10.ex _ _ E9
  dsimp only
  obtain ⟨at_, hat, hat2⟩ : ∃ n : Nat, cellAt ns 2 % (((src.map Rw.enc).length : Int) + 1) = (n : Int) ∧ n ≤ (src.map Rw.enc).length := by
    have := mod_lt10 (cellAt ns 2) (((src.map Rw.enc).length : Int) + 1) (by omega)
    exact ⟨(cellAt ns 2 % (((src.map Rw.enc).length : Int) + 1)).toNat, by omega, by omega⟩
  refine s_asgD (K := K) (H0 := H10) (d := .int (at_ : Int)) (evd_is (evd_i (ev_I (K := K) (C := fun _ j => 0 < j) (g := fun i j => .int (i % j)) (evd_cell (ev_var rfl) ev_c S10 (by decide) hl) (ev_addI (evd_i (ev_lenT (evd_var F10))) evd_int) (by omega))) (congrArg PyData.int hat)) (Ex.refl _) fun v11 H11 B11 g11 d11 => ?_
  have D11 := dp_ex g11.d2 _ _ d11
  have S11 := ex_l g11.ex S10
  have F11 := dp_ex g11.ex _ _ F10
  have E11 := dp_ex g11.ex _ _ E10
  have G11 := dp_ex g11.ex _ _ D10
  dsimp only
  have hlr : (src.map Rw.enc).length ≤ 8 := by rw [List.length_map]; exact hl8
  have hnine : (List.replicate 9 [PyData.tuple [.str "show", .int 1]]).flatten.length = 9 := by decide +kernel
  refine s_asgD (K := K) (H0 := H11) (d := .list (badsD src bad at_))
    (evd_lst (eds_cons (evd_addT (evd_addT (evd_is (evd_slT (evd_var F11) eo_none (eo_i (evd_var D11))) (congrArg PyData.tuple (cut_take _ _ hat2))) (evd_tup (eds_cons (evd_var G11) eds_nil) (by simp)) (by rw [List.length_take, List.length_singleton]; omega)) (evd_is (evd_slT (evd_var F11) (eo_i (evd_var D11)) eo_none) (congrArg PyData.tuple (cut_drop _ _ hat2))) (by rw [List.length_append, List.length_take, List.length_drop, List.length_singleton]; omega))
      (eds_cons (evd_lstT (evd_var F11)) (eds_cons (evd_var G11) (eds_cons (evd_mulT (n := 9) (evd_tup (eds_cons (evd_tup (eds_cons evd_str (eds_cons evd_int eds_nil)) (by simp)) eds_nil) (by simp)) evd_int (by simp) (by decide) (by simp)) eds_nil)))) (by show 4 ≤ 100000; decide)) (Ex.refl _) fun v12 H12 B12 g12 d12 => ?_
  have D12 := dp_ex g12.d2 _ _ d12
  have S12 := ex_l g12.ex S11
  have E12 := dp_ex g12.ex _ _ E11
  dsimp only
  have m4 := mod_lt10 (cellAt ns 3) 4 (by omega)
  have m3 := mod_lt10 (cellAt ns 3) 3 (by omega)
  obtain ⟨sp, hsp⟩ : ∃ d, (badsD src bad at_)[(cellAt ns 3 % 4).toNat]? = some d := ⟨_, List.getElem?_eq_getElem (by show _ < 4; omega)⟩
  obtain ⟨so, sd, rs, srs, sh⟩ := bads_ok hg hbad at_ sp (List.mem_of_getElem? hsp)
  refine s_asgD (K := K) (H0 := H12) (d := sp) (evd_ixL (evd_var D12) (evd_i (ev_I (K := K) (C := fun _ j => 0 < j) (g := fun i j => .int (i % j)) (evd_cell (ev_var rfl) ev_c S12 (by decide) hl) evd_int (by decide))) (by
    have e : cellAt ns 3 % 4 = (((cellAt ns 3 % 4).toNat : Nat) : Int) := by omega
    rw [e]
    exact atI_nat hsp)) (Ex.refl _) fun v13 H13 B13 g13 d13 => ?_
  have D13 := dp_ex g13.d2 _ _ d13
  have S13 := ex_l g13.ex S12
  have E13 := dp_ex g13.ex _ _ E12
  have G13 := dp_ex g13.ex _ _ D12
  dsimp only
  have isS : ∀ {σ' : L2.St}, σ'[8]? = some (some v13) → EvD K (tCall (spD K F_is_source) [] E0 (tCons (tVar 8) tNil)) σ' H13 (.bool (isSource sp)) := fun hs => evd_call (eds_cons (evd_var D13 hs) eds_nil) ⟨sp, rfl, so, rfl⟩
  refine s_skip (H0 := H13) (et_or (a := false) (b := false) (et_not (a := true) (et_is (et_b (ev_isi (isS rfl) (by decide))) rfl)) fun _ => et_is (et_test (ev_ne (isS rfl) (evd_call (eds_cons (evd_var D13) eds_nil) ⟨rs, sp, rfl, srs, so, sd, sh, rfl⟩) rfl rfl)) ?_) (Ex.refl _) fun H14 e14 => ?_
  · show (!(isSource sp == isSource sp)) = false
    simp
  dsimp only
  refine s_skip (H0 := H13) (et_is (et_test (ev_notIs (K := K) (a := true) (b := true) (evd_is (evd_call (eds_cons (evd_mulT (n := 8) (evd_tup (eds_cons (evd_tup (eds_cons evd_str (eds_cons (evd_ixT (evd_var E13) evd_int (atI_1 _ _ _)) eds_nil)) (by simp)) eds_nil) (by simp)) evd_int (by simp) (by decide) (by simp)) eds_nil) ⟨_, rfl, by decide +kernel, rfl⟩) (congrArg PyData.bool deep_ok)) evd_bl)) rfl) e14 fun H15 e15 => ?_
  dsimp only
  have X15 := e14.trans e15
  refine s_asgD (K := K) (H0 := H15) (d := .int 0) evd_int (Ex.refl _) fun v16 H16 B16 g16 d16 => ?_
  have z16 := dp_int d16
  subst z16
  have X16 := X15.trans g16.ex
  have G16 := dp_ex X16 _ _ G13
  have S16 := ex_l X16 S13
  dsimp only
  refine s_forN (K := K) (H0 := H16) (n := 3) (eds_cons evd_int eds_nil) (Ex.refl _) (by decide) (fun i σ' H' => (∃ o, σ' = [some (.ref a), some v1, some v9, some v8, o8, some v10, some v11, some v12, some v13, some (.int (i : Int)), o]) ∧ Ex H16 H') (fun H8 e8 => ⟨⟨none, rfl⟩, e8⟩) ?_ ?_
  · rintro i σ' H' hi ⟨⟨o, rfl⟩, x16⟩
    have G17 := dp_ex x16 _ _ G16
    have S17 := ex_l x16 S16
    obtain ⟨j, hj, hj2⟩ : ∃ j : Nat, ([0, 1, 3] : List Int)[(cellAt ns 3 % 3).toNat]? = some (j : Int) ∧ (j = 0 ∨ j = 1 ∨ j = 3) := by
      have : (cellAt ns 3 % 3).toNat = 0 ∨ (cellAt ns 3 % 3).toNat = 1 ∨ (cellAt ns 3 % 3).toNat = 2 := by omega
      rcases this with e | e | e <;> rw [e]
      · exact ⟨0, rfl, by decide⟩
      · exact ⟨1, rfl, by decide⟩
      · exact ⟨3, rfl, by decide⟩
    obtain ⟨bd, hbd, hno⟩ := bads_at (src := src) hbad at_ j hj2
    obtain ⟨bo, _, _⟩ := bads_ok hg hbad at_ bd (List.mem_of_getElem? hbd)
    refine s_tryX (K := K) (H0 := H') (cB := c_BadSource) (ds := [.int (i : Int), bd]) (eds_cons (evd_var (.int _)) (eds_cons (evd_ixL (i := (j : Int)) (evd_var G17) (evd_ixL (ds := [.int 0, .int 1, .int 3]) (evd_lst (eds_cons evd_int (eds_cons evd_int (eds_cons evd_int eds_nil))) (by simp)) (evd_i (ev_I (K := K) (C := fun _ j => 0 < j) (g := fun i j => .int (i % j)) (evd_cell (ev_var rfl) ev_c S17 (by decide) hl) evd_int (by decide))) (by
        have e : cellAt ns 3 % 3 = (((cellAt ns 3 % 3).toNat : Nat) : Int) := by omega
        rw [e]
        refine atI_nat ?_
        rw [show ([PyData.int 0, PyData.int 1, PyData.int 3]) = ([0, 1, 3] : List Int).map PyData.int from rfl, List.getElem?_map, hj]
        rfl)) (atI_nat hbd)) eds_nil)) (Ex.refl _) ⟨_, bd, rfl, bo, hno, rfl⟩ fun H18 e18 => ?_
    refine ⟨true, e_BadSource_BadSource, fun _ b hb => ?_, fun z => nomatch z⟩
    refine s_aug (i := 9) (a := (i : Int)) (b := 1) rfl ev_c fun H19 e19 => ?_
    exact ⟨⟨_, rfl⟩, x16.trans (e18.trans e19)⟩
  rintro σ' H' ⟨⟨o, rfl⟩, x16⟩
  exact s_ret (ev_is (ev_eq (K := K) (d := .int 3) (e := .int 3) (evd_var (.int _)) evd_int rfl rfl) rfl) fun H19 e19 => k H19
end
theorem facts {P : Program} {w : World} {K : PySem.W.Frag} {h : Heap} {mg : Str → Option Value} {f : Addr} (X : K.In h) (G : h.Ns mainGlobals mg) (hfa : mg ("law" : Str) = some (.ref f)) (c0 : He.SaysX faL fnL [] [] exB w h K) :
    ∃ fd : FuncData, (∀ (s : Shared) (v : Value), BindsTo s fd ⟨[v], []⟩ [("script", v)]) ∧ ∀ base : Heap, K.In base → base.Ns mainGlobals mg → FnOk P w K mg base CX0 14 f fd ["script"] (LC.spLaw K) := by
  have c : He.SaysD faL fnL K := c0.t.d
  have cm : exB K = true := c0.more
  have T : LC.Tx mg := by
    refine ⟨fun {x} hx => ?_⟩
    simp only [LC.freeN, List.mem_cons, List.not_mem_nil, or_false] at hx
    rcases hx with rfl | rfl | rfl | rfl | rfl | rfl | rfl | rfl | rfl | rfl | rfl | rfl | rfl | rfl | rfl
    · exact He.free_ok X G (c.fact 35 (f := .free "len") rfl)
    · exact He.free_ok X G (c.fact 36 (f := .free "isinstance") rfl)
    · exact He.free_ok X G (c.fact 37 (f := .free "range") rfl)
    · exact He.free_ok X G (c.fact 38 (f := .free "tuple") rfl)
    · exact He.free_ok X G (c.fact 39 (f := .free "sorted") rfl)
    · exact He.free_ok X G (c.fact 40 (f := .free "set") rfl)
    · exact He.free_ok X G (c.fact 41 (f := .free "int") rfl)
    · exact He.free_ok X G (c.fact 42 (f := .free "str") rfl)
    · exact He.free_ok X G (c.fact 43 (f := .free "bool") rfl)
    · exact He.free_ok X G (c.fact 44 (f := .free "list") rfl)
    · exact He.free_ok X G (c.fact 45 (f := .free "min") rfl)
    · exact He.free_ok X G (c.fact 46 (f := .free "zip") rfl)
    · exact He.free_ok X G (c.fact 47 (f := .free "enumerate") rfl)
    · exact He.free_ok X G (c.fact 48 (f := .free "dict") rfl)
    · exact He.free_ok X G (c.fact 49 (f := .free "ValueError") rfl)
  have m___name__ := He.str_ok X G (c.fact 28 (f := .str "__name__" "law_leancells_k02_sources") rfl)
  have m_SMALL := He.str_ok X G (c.fact 29 (f := .str "SMALL" "abcdefghijklmnopqrstuvwxyz") rfl)
  have m_ROUND := He.int_ok X G (c.fact 30 (f := .int "ROUND" 10000) rfl)
  have m_MOST_ROWS := He.int_ok X G (c.fact 31 (f := .int "MOST_ROWS" 8) rfl)
  have m_MOST_DEEP := He.int_ok X G (c.fact 32 (f := .int "MOST_DEEP" 6) rfl)
  have m_WORDS := He.glo_ok X G (c.fact 33 (f := .glo "WORDS") rfl)
  have m_BARRED := He.glo_ok X G (c.fact 34 (f := .glo "BARRED") rfl)
  have t_WORDS : He.tupB K "WORDS" (LC.wordsS.map He.Dv.str) = true := by
    have cm := cm
    unfold exB at cm
    simp only [Bool.and_eq_true] at cm
    exact cm.1.1
  have b_WORDS := LC.tup_strs LC.wordsS t_WORDS
  have t_BARRED : He.tupB K "BARRED" (LC.barredS.map He.Dv.str) = true := by
    have cm := cm
    unfold exB at cm
    simp only [Bool.and_eq_true] at cm
    exact cm.1.2
  have b_BARRED := LC.tup_strs LC.barredS t_BARRED
  obtain ⟨xq_LeanError, xk_LeanError, xb_LeanError, xt_LeanError⟩ := He.exc_ok (c.fact 25 (f := .exc "LeanError") rfl)
  have x_LeanError : LC.ExcF K mg "LeanError" (He.ga K "LeanError") := ⟨xq_LeanError, He.glo_ok X G (c.fact 24 (f := .glo "LeanError") rfl), xk_LeanError, xb_LeanError, xt_LeanError⟩
  obtain ⟨xq_BadSource, xk_BadSource, xb_BadSource, xt_BadSource⟩ := He.exc_ok (c.fact 27 (f := .exc "BadSource") rfl)
  have x_BadSource : LC.ExcF K mg "BadSource" (He.ga K "BadSource") := ⟨xq_BadSource, He.glo_ok X G (c.fact 26 (f := .glo "BadSource") rfl), xk_BadSource, xb_BadSource, xt_BadSource⟩
  obtain ⟨fd_is_within, F_is_within⟩ := c.def_ 0 (d := d_is_within) rfl
  have g_is_within := He.glo_ok X G (c.fact 0 (f := .glo "is_within") rfl)
  obtain ⟨fd_is_name, F_is_name⟩ := c.def_ 1 (d := d_is_name) rfl
  have g_is_name := He.glo_ok X G (c.fact 1 (f := .glo "is_name") rfl)
  obtain ⟨fd_is_sum, F_is_sum⟩ := c.def_ 2 (d := d_is_sum) rfl
  have g_is_sum := He.glo_ok X G (c.fact 2 (f := .glo "is_sum") rfl)
  obtain ⟨fd_is_row, F_is_row⟩ := c.def_ 3 (d := d_is_row) rfl
  have g_is_row := He.glo_ok X G (c.fact 3 (f := .glo "is_row") rfl)
  obtain ⟨fd_is_source, F_is_source⟩ := c.def_ 4 (d := d_is_source) rfl
  have g_is_source := He.glo_ok X G (c.fact 4 (f := .glo "is_source") rfl)
  obtain ⟨fd_look, F_look⟩ := c.def_ 5 (d := d_look) rfl
  have g_look := He.glo_ok X G (c.fact 5 (f := .glo "look") rfl)
  obtain ⟨fd_names_in, F_names_in⟩ := c.def_ 6 (d := d_names_in) rfl
  have g_names_in := He.glo_ok X G (c.fact 6 (f := .glo "names_in") rfl)
  obtain ⟨fd_sets_of, F_sets_of⟩ := c.def_ 7 (d := d_sets_of) rfl
  have g_sets_of := He.glo_ok X G (c.fact 7 (f := .glo "sets_of") rfl)
  obtain ⟨fd_reads_of, F_reads_of⟩ := c.def_ 8 (d := d_reads_of) rfl
  have g_reads_of := He.glo_ok X G (c.fact 8 (f := .glo "reads_of") rfl)
  obtain ⟨fd_sets, F_sets⟩ := c.def_ 9 (d := d_sets) rfl
  have g_sets := He.glo_ok X G (c.fact 9 (f := .glo "sets") rfl)
  obtain ⟨fd_reads, F_reads⟩ := c.def_ 10 (d := d_reads) rfl
  have g_reads := He.glo_ok X G (c.fact 10 (f := .glo "reads") rfl)
  obtain ⟨fd_text_of, F_text_of⟩ := c.def_ 12 (d := d_text_of) rfl
  have g_text_of := He.glo_ok X G (c.fact 12 (f := .glo "text_of") rfl)
  obtain ⟨fd_shown, F_shown⟩ := c.def_ 13 (d := d_shown) rfl
  have g_shown := He.glo_ok X G (c.fact 13 (f := .glo "shown") rfl)
  obtain ⟨fd_law_cell, F_law_cell⟩ := c.def_ 14 (d := d_law_cell) rfl
  have g_law_cell := He.glo_ok X G (c.fact 14 (f := .glo "_law_cell") rfl)
  obtain ⟨fd_law_seed, F_law_seed⟩ := c.def_ 15 (d := d_law_seed) rfl
  have g_law_seed := He.glo_ok X G (c.fact 15 (f := .glo "_law_seed") rfl)
  obtain ⟨fd_law_pick, F_law_pick⟩ := c.def_ 16 (d := d_law_pick) rfl
  have g_law_pick := He.glo_ok X G (c.fact 16 (f := .glo "_law_pick") rfl)
  obtain ⟨fd_law_sum, F_law_sum⟩ := c.def_ 17 (d := d_law_sum) rfl
  have g_law_sum := He.glo_ok X G (c.fact 17 (f := .glo "_law_sum") rfl)
  obtain ⟨fd_law_source, F_law_source⟩ := c.def_ 18 (d := d_law_source) rfl
  have g_law_source := He.glo_ok X G (c.fact 18 (f := .glo "_law_source") rfl)
  obtain ⟨fd_law_is_source, F_law_is_source⟩ := c.def_ 19 (d := d_law_is_source) rfl
  have g_law_is_source := He.glo_ok X G (c.fact 19 (f := .glo "_law_is_source") rfl)
  obtain ⟨fd_law_is_name, F_law_is_name⟩ := c.def_ 20 (d := d_law_is_name) rfl
  have g_law_is_name := He.glo_ok X G (c.fact 20 (f := .glo "_law_is_name") rfl)
  obtain ⟨fd_law_is_sum, F_law_is_sum⟩ := c.def_ 21 (d := d_law_is_sum) rfl
  have g_law_is_sum := He.glo_ok X G (c.fact 21 (f := .glo "_law_is_sum") rfl)
  obtain ⟨fd_law_of_source, F_law_of_source⟩ := c.def_ 22 (d := d_law_of_source) rfl
  have g_law_of_source := He.glo_ok X G (c.fact 22 (f := .glo "_law_of_source") rfl)
  obtain ⟨fd_law, F_law⟩ := c.def_ 23 (d := d_law) rfl
  have g_law := He.glo_ok X G (c.fact 23 (f := .glo "law") rfl)
  have e := hfa.symm.trans g_law
  cases e
  have b := FunD.bindsA (ps := ["script"]) F_law fun _ _ _ _ _ _ us hl => match us, hl with | [_], _ => rfl
  refine ⟨fd_law, fun s v => b s [v] rfl, fun base _ _ => ?_⟩
  have h_is_within := ok_is_within (P := P) (w := w) (base := base)  F_is_within g_is_within T 
  have h_is_name := ok_is_name (P := P) (w := w) (base := base)  F_is_name g_is_name T (m_SMALL := m_SMALL) (m_BARRED := m_BARRED) (b_BARRED := b_BARRED)
  have h_is_sum := ok_is_sum (P := P) (w := w) (base := base)  F_is_sum g_is_sum T (m_WORDS := m_WORDS) (b_WORDS := b_WORDS) (h_is_within := h_is_within) (m_ROUND := m_ROUND) (h_is_name := h_is_name)
  have h_is_row := ok_is_row (P := P) (w := w) (base := base)  F_is_row g_is_row T (h_is_sum := h_is_sum) (m_MOST_DEEP := m_MOST_DEEP) (h_is_name := h_is_name)
  have h_is_source := ok_is_source (P := P) (w := w) (base := base)  F_is_source g_is_source T (h_is_row := h_is_row) (m_MOST_ROWS := m_MOST_ROWS)
  have h_look := ok_look (P := P) (w := w) (base := base) (c_BadSource := He.ga K "BadSource") F_look g_look T (h_is_source := h_is_source) (x_BadSource := x_BadSource)
  have h_names_in := ok_names_in (P := P) (w := w) (base := base)  F_names_in g_names_in T 
  have h_sets_of := ok_sets_of (P := P) (w := w) (base := base)  F_sets_of g_sets_of T 
  have h_reads_of := ok_reads_of (P := P) (w := w) (base := base)  F_reads_of g_reads_of T (h_names_in := h_names_in)
  have h_sets := ok_sets (P := P) (w := w) (base := base) (c_BadSource := He.ga K "BadSource") F_sets g_sets T (h_sets_of := h_sets_of) (h_look := h_look)
  have h_reads := ok_reads (P := P) (w := w) (base := base) (c_BadSource := He.ga K "BadSource") F_reads g_reads T (h_reads_of := h_reads_of) (h_look := h_look)
  have h_text_of := ok_text_of (P := P) (w := w) (base := base)  F_text_of g_text_of T 
  have h_shown := ok_shown (P := P) (w := w) (base := base) (c_BadSource := He.ga K "BadSource") F_shown g_shown T (h_text_of := h_text_of) (h_look := h_look)
  have h_law_cell := ok_law_cell (P := P) (w := w) (base := base)  F_law_cell g_law_cell T 
  have h_law_seed := ok_law_seed (P := P) (w := w) (base := base)  F_law_seed g_law_seed T 
  have h_law_pick := ok_law_pick (P := P) (w := w) (base := base)  F_law_pick g_law_pick T 
  have h_law_sum := ok_law_sum (P := P) (w := w) (base := base)  F_law_sum g_law_sum T (h__law_seed := h_law_seed) (h__law_pick := h_law_pick)
  have h_law_source := ok_law_source (P := P) (w := w) (base := base)  F_law_source g_law_source T (h__law_pick := h_law_pick) (h__law_sum := h_law_sum) (h__law_seed := h_law_seed)
  have h_law_is_name := ok_law_is_name (P := P) (w := w) (base := base)  F_law_is_name g_law_is_name T 
  have h_law_is_sum := ok_law_is_sum (P := P) (w := w) (base := base)  F_law_is_sum g_law_is_sum T (h__law_is_name := h_law_is_name)
  have h_law_is_source := ok_law_is_source (P := P) (w := w) (base := base)  F_law_is_source g_law_is_source T (h__law_is_name := h_law_is_name) (h__law_is_sum := h_law_is_sum)
  have h_law_of_source := ok_law_of_source (P := P) (w := w) (base := base) (c_BadSource := He.ga K "BadSource") F_law_of_source g_law_of_source T (h_reads := h_reads) (h_shown := h_shown) (h_sets := h_sets)
  exact (ok_law F_law g_law T (x_BadSource := x_BadSource) (e_BadSource_BadSource := He.exm_ok (c.fact 50 (f := .exm "BadSource" "BadSource" true) rfl)) (h__law_of_source := h_law_of_source) (h__law_cell := h_law_cell) (h_is_source := h_is_source) (h__law_is_source := h_law_is_source) (h__law_source := h_law_source) (h__law_seed := h_law_seed)).1
end K02
open PySem PySem.W PySem.Calls PyProof.Rows
theorem PySem.Challenge.cw_leancells_k02_sources_holds : PySem.Challenge.rw_leancells_k02_sources.Holds := by
  w_on; o_law
  refine HandSHeadRun.head_any (r := OpenLaw.row PySem.Challenge.rw_leancells_k02_sources) (q := view (OpenLaw.row PySem.Challenge.rw_leancells_k02_sources).prog [34]) (H := K02.hk) (ob := K02.ob) (M := 3000) (loose := K02.looseL) (d := HandSHeadRun.topDef (OpenLaw.row PySem.Challenge.rw_leancells_k02_sources).prog 34) (kwd := []) K02.ob_eq
    (by kernel_rfl) (fun s => by kernel_rfl) K02.run (by kernel_rfl) (by kernel_rfl) (by kernel_rfl) (by rfl) (by first | assumption | decide +kernel) (by decide +kernel) ⟨rfl, rfl, rfl, rfl, rfl, by decide +kernel⟩ ?hw ?hc
  case hw => w_witness2
  case hc =>
    refine L2.walk_ofE (l := PySem.Challenge.rw_leancells_k02_sources) (n := 63) (k := 14) (x := "script") (CX := L2.CX0) rfl (by decide) (by kernel_rfl) ⟨rfl, by decide, by decide⟩ ?F (fun _ _ _ _ z => z)
    intro w mg fa h Y G hmg0
    obtain ⟨K, KX, c⟩ := Y
    have hmg : mg ("law" : PySem.Str) = some (.ref fa) := by
      have e : (HandSHeadRun.topDef (OpenLaw.row PySem.Challenge.rw_leancells_k02_sources).prog 34).name = ("law" : PySem.Str) := by kernel_rfl
      rw [← e]
      exact hmg0
    obtain ⟨fd, hb, hF⟩ := K02.facts (P := (PySem.Challenge.rw_leancells_k02_sources).prog) (w := w) KX G hmg c
    exact ⟨K, fd, LC.spLaw K, KX, hb, fun H a ns hl _ hS => ⟨a, ns, rfl, hS, hl, fun _ => rfl⟩, hF⟩
