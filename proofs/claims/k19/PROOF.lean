import PyProof.Rows.All
import Wide.All
import OpenK.AllK
import Wide.FinOn
import KE.KStateDown
import Lean
import HandS.Base
import HandS.Call
import HandS.List
import HandS.Comp
import HandS.Ends
import HandS.Dict
import HandS.Iter
import HandS.Text
import HandS.Exc
import HandS.Words
import HandS.WordsList
import HandS.WordsExc
import HandS.WordsDict
import HandS.Defaults
import HandS.More
import HandS.Flow
import HandS.Style
import HandS.IsInst
import HandS.ExcOwn
import HandS.Evl
import HandS.TupAny
import HandS.TupMul
import HandS.Set
import HandS.TupSets
import HandS.SetFor
import HandS.Head0
import HandS.Head1
import HandS.Head2
import HandS.HeadEnd
import HandS.HeadHook1
import HandS.HeadHook2
import HandS.HeadHook3
import HandS.HeadHook4
import HandS.TryOnly
import HandS.Lambda
import HandS.Conv
import PySem.Challenge.RW_leancells_k19_full
set_option Elab.async false
set_option linter.all false
set_option maxRecDepth 100000
set_option maxHeartbeats 8000000
namespace LC
open PySem L2 Evl
abbrev Frag := PySem.W.Frag
/-! ### data in the heap: lists of the program's own, tuples of any -/
mutual
inductive Dt (K : Frag) (H : Hp) : V → PyData → Prop
  | non : Dt K H .non .none
  | bl (b : Bool) : Dt K H (.bl b) (.bool b)
  | int (i : Int) : Dt K H (.int i) (.int i)
  | str (x : Str) : Dt K H (.str x) (.str x)
  | lst {a : Addr} {xs : List V} {ds : List PyData} : H a = some (.lst xs) → DtAll K H xs ds → Dt K H (.ref a) (.list ds)
  | tup {a : Addr} {xs : List V} {ds : List PyData} : SqT K H a xs → DtAll K H xs ds → Dt K H (.ref a) (.tuple ds)
inductive DtAll (K : Frag) (H : Hp) : List V → List PyData → Prop
  | nil : DtAll K H [] []
  | cons {v : V} {vs : List V} {d : PyData} {ds : List PyData} : Dt K H v d → DtAll K H vs ds → DtAll K H (v :: vs) (d :: ds)
end
mutual
theorem dt_dp {K : Frag} {H : Hp} : ∀ (d : PyData) (v : V), Dt K H v d → Dp K H v d
  | .none, _, h => by cases h; exact .non
  | .bool b, _, h => by cases h; exact .bl b
  | .int i, _, h => by cases h; exact .int i
  | .str x, _, h => by cases h; exact .str x
  | .list ds, _, h => by
    cases h with
    | lst hs ha => exact .lst (sq_of hs) (dtAll_dp ds _ ha)
  | .tuple ds, _, h => by
    cases h with
    | tup hs ha => exact .tup hs (dtAll_dp ds _ ha)
  | .dict _, _, h => by cases h
theorem dtAll_dp {K : Frag} {H : Hp} : ∀ (ds : List PyData) (vs : List V), DtAll K H vs ds → DpAll K H vs ds
  | [], _, h => by cases h; exact .nil
  | d :: ds, _, h => by
    cases h with
    | cons h1 h2 => exact .cons (dt_dp d _ h1) (dtAll_dp ds _ h2)
end
/-! ### data stay where the heap only grows -/
mutual
theorem dp_ex {K : Frag} {H H' : Hp} (e : Ex H H') : ∀ (d : PyData) (v : V), Dt K H v d → Dt K H' v d
  | .none, _, h => by cases h; exact .non
  | .bool b, _, h => by cases h; exact .bl b
  | .int i, _, h => by cases h; exact .int i
  | .str x, _, h => by cases h; exact .str x
  | .list ds, _, h => by
    cases h with
    | lst hs ha => exact .lst (e _ _ hs) (dpAll_ex e ds _ ha)
  | .tuple ds, _, h => by
    cases h with
    | tup hs ha => exact .tup (ex_t e hs) (dpAll_ex e ds _ ha)
  | .dict _, _, h => by cases h
theorem dpAll_ex {K : Frag} {H H' : Hp} (e : Ex H H') : ∀ (ds : List PyData) (vs : List V), DtAll K H vs ds → DtAll K H' vs ds
  | [], _, h => by cases h; exact .nil
  | d :: ds, _, h => by
    cases h with
    | cons h1 h2 => exact .cons (dp_ex e d _ h1) (dpAll_ex e ds _ h2)
end
section
variable {K : Frag} {H H' : Hp}
theorem dpAll_len : ∀ {vs : List V} {ds : List PyData}, DtAll K H vs ds → vs.length = ds.length
  | _, _, .nil => rfl
  | _, _, .cons _ t => congrArg (· + 1) (dpAll_len t)
theorem dpAll_at : ∀ {vs : List V} {ds : List PyData} {i : Nat} {d : PyData}, DtAll K H vs ds → ds[i]? = some d → ∃ v, vs[i]? = some v ∧ Dt K H v d
  | _, _, _, _, .nil, e => by simp at e
  | _, _, 0, _, .cons h _, e => by simp at e; subst e; exact ⟨_, rfl, h⟩
  | _, _, i + 1, d, .cons _ t, e => by
    obtain ⟨v, h1, h2⟩ := dpAll_at (i := i) (d := d) t (by simpa using e)
    exact ⟨v, by simpa using h1, h2⟩
theorem dpAll_of : ∀ {vs : List V} {ds : List PyData} {i : Nat} {v : V}, DtAll K H vs ds → vs[i]? = some v → ∃ d, ds[i]? = some d ∧ Dt K H v d
  | _, _, _, _, .nil, e => by simp at e
  | _, _, 0, _, .cons h _, e => by simp at e; subst e; exact ⟨_, rfl, h⟩
  | _, _, i + 1, d, .cons _ t, e => by
    obtain ⟨v, h1, h2⟩ := dpAll_of (i := i) t (by simpa using e)
    exact ⟨v, by simpa using h1, h2⟩
theorem dpAll_app : ∀ {vs ws : List V} {ds es : List PyData}, DtAll K H vs ds → DtAll K H ws es → DtAll K H (vs ++ ws) (ds ++ es)
  | _, _, _, _, .nil, h => h
  | _, _, _, _, .cons a t, h => .cons a (dpAll_app t h)
theorem dpAll_drop : ∀ {vs : List V} {ds : List PyData} (n : Nat), DtAll K H vs ds → DtAll K H (vs.drop n) (ds.drop n)
  | _, _, 0, h => h
  | _, _, _ + 1, .nil => .nil
  | _, _, n + 1, .cons _ t => dpAll_drop n t
theorem dpAll_take : ∀ {vs : List V} {ds : List PyData} (n : Nat), DtAll K H vs ds → DtAll K H (vs.take n) (ds.take n)
  | _, _, 0, _ => .nil
  | _, _, _ + 1, .nil => .nil
  | _, _, n + 1, .cons a t => .cons a (dpAll_take n t)
theorem dpAll_one {v : V} {d : PyData} (h : Dt K H v d) : DtAll K H [v] [d] := .cons h .nil
theorem dp_tup {v : V} {ds : List PyData} (h : Dt K H v (.tuple ds)) : ∃ a xs, v = .ref a ∧ SqT K H a xs ∧ DtAll K H xs ds := by
  cases h with
  | tup hs ha => exact ⟨_, _, rfl, hs, ha⟩
theorem dp_lst {v : V} {ds : List PyData} (h : Dt K H v (.list ds)) : ∃ a xs, v = .ref a ∧ H a = some (.lst xs) ∧ DtAll K H xs ds := by
  cases h with
  | lst hs ha => exact ⟨_, _, rfl, hs, ha⟩
theorem dp_int {v : V} {i : Int} (h : Dt K H v (.int i)) : v = .int i := by cases h; rfl
theorem dp_str {v : V} {x : Str} (h : Dt K H v (.str x)) : v = .str x := by cases h; rfl
theorem dp_bool {v : V} {b : Bool} (h : Dt K H v (.bool b)) : v = .bl b := by cases h; rfl
theorem dp_none {v : V} (h : Dt K H v .none) : v = .non := by cases h; rfl
end
/-! ### what evaluates to which data -/
/-- H: where the data at hand lie; H1, H2: the heap ahead and behind; Hd: where the new data lie: among H's and what is new -/
structure Gr (H H1 H2 Hd : Hp) : Prop where
  ex : Ex H1 H2
  xd : Ex H Hd
  d2 : Ex Hd H2
  fr : ∀ a, H a = none → H1 a ≠ none → Hd a = none
theorem Gr.base {H H1 H2 : Hp} (a : Ex H H1) (b : Ex H1 H2) : Gr H H1 H2 H := ⟨b, Ex.refl H, a.trans b, fun _ h _ => h⟩
def join (A B : Hp) : Hp := fun a => match A a with
  | some o => some o
  | none => B a
theorem join_l {A B : Hp} : Ex A (join A B) := fun a o h => by unfold join; rw [h]
theorem join_r {A B C : Hp} (ha : Ex A C) (hb : Ex B C) : Ex B (join A B) := fun a o h => by
  unfold join
  cases q : A a with
  | none => exact h
  | some u =>
    have h1 := ha a u q
    have h2 := hb a o h
    rw [h1] at h2
    exact h2
theorem join_to {A B C : Hp} (ha : Ex A C) (hb : Ex B C) : Ex (join A B) C := fun a o h => by
  unfold join at h
  cases q : A a with
  | none => rw [q] at h; exact hb a o h
  | some u => rw [q] at h; cases h; exact ha a _ q
theorem ne_none {H H' : Hp} {a : Addr} (e : Ex H H') (h : H a ≠ none) : H' a ≠ none := by
  cases q : H a with
  | none => exact absurd q h
  | some o => rw [e a o q]; exact fun z => nomatch z
theorem Gr.join {H H1 H2 H3 A B : Hp} (x : Gr H H1 H2 A) (y : Gr H H2 H3 B) : Gr H H1 H3 (join A B) :=
  ⟨x.ex.trans y.ex, x.xd.trans join_l, join_to (x.d2.trans y.ex) y.d2, fun a h0 h1 => by
    have e1 := x.fr a h0 h1
    have e2 := y.fr a h0 (ne_none x.ex h1)
    unfold LC.join
    rw [e1]
    exact e2⟩
theorem Gr.more {H H1 H2 H3 A : Hp} (x : Gr H H1 H2 A) (e : Ex H2 H3) : Gr H H1 H3 A := ⟨x.ex.trans e, x.xd, x.d2.trans e, x.fr⟩
theorem Gr.after {H H1 H2 H3 A : Hp} (e : Ex H1 H2) (x : Gr H H2 H3 A) : Gr H H1 H3 A := ⟨e.trans x.ex, x.xd, x.d2, fun a h0 h1 => x.fr a h0 (ne_none e h1)⟩
/-- a new object for the data -/
theorem Gr.new {H H1 H2 Hd : Hp} {p : Addr} (o : HO) (x : Gr H H1 H2 Hd) (hp : H2 p = none) : Gr H H1 (upd H2 p o) (upd Hd p o) := by
  have hd : Hd p = none := fresh_back x.d2 hp
  refine ⟨x.ex.trans (Ex.new hp), x.xd.trans (Ex.new hd), fun a u h => ?_, fun a h0 h1 => ?_⟩
  · by_cases e : a = p
    · subst e
      rw [upd_same] at h ⊢
      exact h
    · rw [upd_ne e] at h ⊢
      exact x.d2 a u h
  · have e : a ≠ p := fun z => h1 (by rw [z]; exact fresh_back x.ex hp)
    rw [upd_ne e]
    exact x.fr a h0 h1
/-- what was known in a part is known in the whole -/
theorem Gr.wide {H0 H H1 H2 Hd : Hp} (e : Ex H0 H) (e1 : Ex H H1) (x : Gr H0 H1 H2 Hd) : Gr H H1 H2 (LC.join H Hd) :=
  ⟨x.ex, join_l, join_to (e1.trans x.ex) x.d2, fun a h0 h1 => by
    have q : H0 a = none := fresh_back e h0
    have z := x.fr a q h1
    unfold LC.join
    rw [h0]
    exact z⟩
theorem Gr.wide_r {H0 H H1 H2 Hd : Hp} (e1 : Ex H H1) (x : Gr H0 H1 H2 Hd) : Ex Hd (LC.join H Hd) := join_r (e1.trans x.ex) x.d2
/-- te comes to a value of the data d; the heap only grows -/
def EvD (K : Frag) (te : TE) (σ : L2.St) (H : Hp) (d : PyData) : Prop := ∀ H1, Ex H H1 → ∀ Q : VK, (∀ v H2 Hd, Gr H H1 H2 Hd → Dt K Hd v d → Q v H2) → te σ H1 Q
def EvDs (K : Frag) (ta : TA) (σ : L2.St) (H : Hp) (ds : List PyData) : Prop := ∀ H1, Ex H H1 → ∀ Q : List V → Hp → Prop, (∀ vs H2 Hd, Gr H H1 H2 Hd → DtAll K Hd vs ds → Q vs H2) → ta σ H1 Q
/-- a promise over data: from such arguments this comes, and the heap only grows -/
def spD (K : Frag) (F : List PyData → PyData → Prop) : Sp := fun vs H Q _ => ∃ ds d H0, Ex H0 H ∧ DtAll K H0 vs ds ∧ F ds d ∧ ∀ v H2 Hd, Gr H0 H H2 Hd → Dt K Hd v d → Q v H2
section
variable {K : Frag} {σ : L2.St} {H H' : Hp} {ta tb te tx : TE} {t u : TT} {d e : PyData}
theorem EvD.mono (x : Ex H H') (h : EvD K te σ H d) : EvD K te σ H' d := fun H1 a Q q => h H1 (x.trans a) Q fun v H2 Hd g hd => q v H2 _ (g.wide x a) (dp_ex (g.wide_r a) _ _ hd)
theorem EvDs.mono {ta : TA} {ds : List PyData} (x : Ex H H') (h : EvDs K ta σ H ds) : EvDs K ta σ H' ds := fun H1 a Q q => h H1 (x.trans a) Q fun v H2 Hd g hd => q v H2 _ (g.wide x a) (dpAll_ex (g.wide_r a) _ _ hd)
theorem evd_of {v : V} (h : Ev te σ H v) (hd : Dt K H v d) : EvD K te σ H d := fun H1 e Q q => h H1 e Q fun H2 e2 => q v H2 H (Gr.base e e2) hd
theorem evd_var {i : Nat} {v : V} (hd : Dt K H v d) (h : σ[i]? = some (some v) := by rfl) : EvD K (tVar i) σ H d := evd_of (ev_var h) hd
theorem evd_int {i : Int} : EvD K (tC (.int i)) σ H (.int i) := evd_of ev_c (.int i)
theorem evd_str {x : Str} : EvD K (tC (.str x)) σ H (.str x) := evd_of ev_c (.str x)
theorem evd_bl {b : Bool} : EvD K (tC (.bl b)) σ H (.bool b) := evd_of ev_c (.bl b)
theorem evd_non : EvD K (tC .non) σ H .none := evd_of ev_c .non
theorem evd_is {d' : PyData} (h : EvD K te σ H d) (e : d = d') : EvD K te σ H d' := e ▸ h
theorem ev_int {i : Int} (h : EvD K te σ H (.int i)) : Ev te σ H (.int i) := fun H1 e Q q => h H1 e Q fun v H2 Hd g hd => by rw [dp_int hd]; exact q H2 g.ex
theorem ev_str {x : Str} (h : EvD K te σ H (.str x)) : Ev te σ H (.str x) := fun H1 e Q q => h H1 e Q fun v H2 Hd g hd => by rw [dp_str hd]; exact q H2 g.ex
theorem ev_bl {b : Bool} (h : EvD K te σ H (.bool b)) : Ev te σ H (.bl b) := fun H1 e Q q => h H1 e Q fun v H2 Hd g hd => by rw [dp_bool hd]; exact q H2 g.ex
theorem evd_b {b : Bool} (h : Ev te σ H (.bl b)) : EvD K te σ H (.bool b) := evd_of h (.bl b)
theorem evd_i {i : Int} (h : Ev te σ H (.int i)) : EvD K te σ H (.int i) := evd_of h (.int i)
theorem evd_s {x : Str} (h : Ev te σ H (.str x)) : EvD K te σ H (.str x) := evd_of h (.str x)
theorem eds_nil : EvDs K tNil σ H [] := fun H1 e _ q => q [] H1 H (Gr.base e (Ex.refl H1)) .nil
theorem eds_cons {tr : TA} {ds : List PyData} (h : EvD K te σ H d) (hr : EvDs K tr σ H ds) : EvDs K (tCons te tr) σ H (d :: ds) := fun H1 e _ q =>
  h H1 e _ fun v H2 A g hd => hr H2 (e.trans g.ex) _ fun vs H3 B g2 hds => q (v :: vs) H3 _ (g.join g2) (.cons (dp_ex join_l _ _ hd) (dpAll_ex (join_r (g.d2.trans g2.ex) g2.d2) _ _ hds))
theorem evd_tup {ta : TA} {ds : List PyData} (h : EvDs K ta σ H ds) (hl : ds.length ≤ 100000) : EvD K (tTup ta) σ H (.tuple ds) := fun H1 e _ q =>
  h H1 e _ fun vs H2 Hd g hds => ⟨by rw [dpAll_len hds]; exact sz_of hl, fun p hp => q (.ref p) _ _ (g.new _ hp) (.tup (st_of upd_same) (dpAll_ex (Ex.new (fresh_back g.d2 hp)) _ _ hds))⟩
theorem evd_lst {ta : TA} {ds : List PyData} (h : EvDs K ta σ H ds) (hl : ds.length ≤ 100000) : EvD K (tLst ta) σ H (.list ds) := fun H1 e _ q =>
  h H1 e _ fun vs H2 Hd g hds => ⟨by rw [dpAll_len hds]; exact sz_of hl, fun p hp => q (.ref p) _ _ (g.new _ hp) (.lst upd_same (dpAll_ex (Ex.new (fresh_back g.d2 hp)) _ _ hds))⟩
theorem evd_call {F : List PyData → PyData → Prop} {ta : TA} {ds : List PyData} {E : XK} (h : EvDs K ta σ H ds) (hf : F ds d) : EvD K (tCall (spD K F) [] E ta) σ H d := fun H1 e Q q =>
  h H1 e _ fun vs H2 A g hds => ⟨ds, d, A, g.d2, by rw [List.append_nil]; exact hds, hf, fun v H3 B g2 hd => q v H3 B
    ⟨g.ex.trans g2.ex, g.xd.trans g2.xd, g2.d2, fun a h0 h1 => g2.fr a (g.fr a h0 h1) (ne_none g.ex h1)⟩ hd⟩
/-- tests -/
theorem et_tru {b : Bool} (h : EvD K te σ H d) (ht : ∀ v H1, Dt K H1 v d → TruV K v H1 b) : EvT (fun σ H Q => te σ H fun x H' => ∃ k, TruV K x H' k ∧ Q k H') σ H b := fun H1 e Q q =>
  h H1 e _ fun v H2 Hd g hd => ⟨b, ht v H2 (dp_ex g.d2 _ _ hd), q H2 g.ex⟩
theorem evd_if {b : Bool} (h : EvT t σ H b) (h1 : b = true → EvD K ta σ H d) (h2 : b = false → EvD K tb σ H d) : EvD K (tIf t ta tb) σ H d := fun H1 e Q q => h H1 e _ fun H2 e2 => by
  cases b with
  | true =>
    show ta σ H2 Q
    exact h1 rfl H2 (e.trans e2) Q fun v H3 Hd g => q v H3 Hd (g.after e2)
  | false =>
    show tb σ H2 Q
    exact h2 rfl H2 (e.trans e2) Q fun v H3 Hd g => q v H3 Hd (g.after e2)
/-! statements: H the heap as it is, H0 the part where the data lie -/
variable {D : Ends} {tu tw : TS} {H0 : Hp}
theorem s_retD (h : EvD K te σ H0 d) (x : Ex H0 H) (k : ∀ v H1 Hd, Gr H0 H H1 Hd → Dt K Hd v d → D.rt v H1) : tRet te D σ H := h H x _ k
theorem s_asgD {i : Nat} (h : EvD K te σ H0 d) (x : Ex H0 H) (k : ∀ v H1 Hd, Gr H0 H H1 Hd → Dt K Hd v d → D.nx (σ.set i (some v)) H1) : tAsg te (gName i) D σ H := h H x _ k
theorem s_dropD (h : EvD K te σ H0 d) (x : Ex H0 H) (k : ∀ v H1 Hd, Gr H0 H H1 Hd → Dt K Hd v d → D.nx σ H1) : tDrop te D σ H := h H x _ k
theorem s_ifD {b : Bool} (h : EvT t σ H0 b) (x : Ex H0 H) (h1 : b = true → ∀ H1, Ex H H1 → tu D σ H1) (h2 : b = false → ∀ H1, Ex H H1 → tw D σ H1) : tIfS t tu tw D σ H := h H x _ fun H1 e => by
  cases b with
  | true => exact h1 rfl H1 e
  | false => exact h2 rfl H1 e
end
end LC

namespace LC
open PySem L2 Evl
/-! ### universal operators: the reading chooses -/
def rOr (r s : R2) : R2 := fun x y H Q => r x y H Q ∨ s x y H Q
abbrev rPlusI : R2 := rI0 fun i j => .int (i + j)
def rPlusS : R2 := fun x y H Q => ∃ i j, x = .str i ∧ y = .str j ∧ i.length + j.length ≤ sizeLine ∧ Q (.str (i ++ j)) H
def rAddU (K : Frag) : R2 := rOr rPlusI (rOr rPlusS (rOr rCat (rCatA K)))
def rMulU (K : Frag) : R2 := rOr (rI CMul fun i j => .int (i * j)) (rOr rRep (rRepT K))
def rInU (K : Frag) (neg : Bool) : R2 := rOr (rIn K neg) (fun x y H Q => ∃ (c : Nat) (z : Str), x = .str ⟨#[c]⟩ ∧ y = .str z ∧ Q (.bl (if neg then !decide (c ∈ z.cps.toList) else decide (c ∈ z.cps.toList))) H)
def rSlU (K : Frag) : V → Option Int → Option Int → Hp → VK → Prop := fun x lo hi H Q => rSlL K x lo hi H Q ∨ rSlA K x lo hi H Q ∨ rSlS x lo hi H Q
def iSeq (K : Frag) (tl : TE) : TI := fun σ H R => iList K tl σ H R ∨ iTup K tl σ H R ∨ iStr tl σ H R
section
variable {X : Cx}
theorem opAdd : OpR X (binaryOp .Add) (rAddU X.K) := OpR.or op_add (OpR.or op_add_str (OpR.or op_cat op_catA))
theorem opMul : OpR X (binaryOp .Mult) (rMulU X.K) := OpR.or op_mul (OpR.or op_rep op_repT)
theorem opIn : OpR X (compareOp .In) (rInU X.K false) := OpR.or op_in_seq (by
  intro pins s σ H x y v u Q I rx ry h
  exact op_in_sign pins s σ H x y v u Q I rx ry h)
theorem opNotIn : OpR X (compareOp .NotIn) (rInU X.K true) := OpR.or op_notIn_seq (by
  intro pins s σ H x y v u Q I rx ry h
  exact op_notIn_sign pins s σ H x y v u Q I rx ry h)
theorem slU : SlR X (rSlU X.K) := SlR.or sl_list (SlR.or sl_tupA sl_str)
theorem pi_seq {tg e : Expr} {te : TE} (he : PE X e te) : PI X tg e (iSeq X.K te) := by
  refine ⟨fun pins s σ H R I h => ?_⟩
  rcases h with h | h | h
  · exact (pi_list he).run pins s σ H R I h
  · exact (pi_tup he).run pins s σ H R I h
  · exact (pi_str he).run pins s σ H R I h
end
/-! ### the type of data -/
def tyN : PyData → String
  | .none => "NoneType"
  | .bool _ => "bool"
  | .int _ => "int"
  | .str _ => "str"
  | .list _ => "list"
  | .tuple _ => "tuple"
  | .dict _ => "dict"
def isT (d : PyData) (T : String) : Bool := tyN d == T || (tyN d == "bool" && T == "int")
theorem kitB_all : ["NoneType", "bool", "int", "str", "list", "tuple", "dict"].all (fun a => ["bool", "int", "str", "list", "tuple", "dict"].all fun b => decide (kitB a b = some (a == b || (a == "bool" && b == "int")))) = true := by decide +kernel
theorem tyN_mem (d : PyData) : tyN d ∈ ["NoneType", "bool", "int", "str", "list", "tuple", "dict"] := by cases d <;> simp [tyN]
theorem kit_isT {K : Frag} (d : PyData) {T : String} (hT : T ∈ ["bool", "int", "str", "list", "tuple", "dict"]) : PySem.W.kitOne K (.type (tyN d)) (.type T) = some (isT d T) :=
  kit_ty (of_decide_eq_true (List.all_eq_true.mp (List.all_eq_true.mp kitB_all _ (tyN_mem d)) _ hT))
section
variable {K : Frag} {σ : L2.St} {H H' : Hp} {ta tb te tx : TE} {t u : TT} {d e : PyData}
theorem dp_ty {v : V} (h : Dt K H v d) : TyX K H v (.type (tyN d)) := by
  cases h with
  | non => exact .base .non
  | bl b => exact .base (.bl b)
  | int i => exact .base (.int i)
  | str x => exact .base (.str x)
  | lst hs _ => exact .base (.lst hs)
  | tup hs _ =>
    rcases hs with (hs | ⟨o, hs⟩) | ⟨o, its, n, hk, hc, _⟩
    · exact .base (.tup hs)
    · exact .fTuple hs
    · exact .kTuple hk hc
theorem ev_isi {T : String} (h : EvD K te σ H d) (hT : T ∈ ["bool", "int", "str", "list", "tuple", "dict"]) : Ev (tCB (rIsi K) (tCons te (tCons (tC (.ty T)) tNil))) σ H (.bl (isT d T)) := fun H1 e Q q =>
  h H1 e _ fun v H2 Hd g hd => ⟨v, .ty T, _, _, _, rfl, .ty T, dp_ty (dp_ex g.d2 _ _ hd), kit_isT d hT, q H2 g.ex⟩
/-! ints, texts -/
theorem ev_addI {i j : Int} (ha : EvD K ta σ H (.int i)) (hb : EvD K tb σ H (.int j)) : EvD K (tOp (rAddU K) ta tb) σ H (.int (i + j)) := evd_i (ev_op (ev_int ha) (ev_int hb) fun H1 _ _ q => .inl ⟨i, j, rfl, rfl, q H1 (Ex.refl H1)⟩)
theorem ev_I0 {g : Int → Int → V} {i j : Int} (ha : EvD K ta σ H (.int i)) (hb : EvD K tb σ H (.int j)) : Ev (tOp (rI0 g) ta tb) σ H (g i j) := ev_op (ev_int ha) (ev_int hb) rv_I0
theorem ev_I {C : Int → Int → Prop} {g : Int → Int → V} {i j : Int} (ha : EvD K ta σ H (.int i)) (hb : EvD K tb σ H (.int j)) (hc : C i j) : Ev (tOp (rI C g) ta tb) σ H (g i j) := ev_op (ev_int ha) (ev_int hb) (rv_I hc)
theorem evd_mulI {i j : Int} (ha : EvD K ta σ H (.int i)) (hb : EvD K tb σ H (.int j)) (hc : CMul i j) : EvD K (tOp (rMulU K) ta tb) σ H (.int (i * j)) := evd_i (ev_op (ev_int ha) (ev_int hb) fun H1 _ _ q => .inl ⟨i, j, rfl, rfl, hc, q H1 (Ex.refl H1)⟩)
/-! two data operands in a row -/
theorem evd_op {r : R2} {z : PyData} (ha : EvD K ta σ H d) (hb : EvD K tb σ H e) (hr : ∀ x y H1 A, Ex A H1 → Dt K A x d → Dt K A y e → ∀ Q : VK, (∀ v H2 B, Gr A H1 H2 B → Dt K B v z → Q v H2) → r x y H1 Q) : EvD K (tOp r ta tb) σ H z := fun H1 e1 Q q =>
  ha H1 e1 _ fun x H2 A g hx => hb H2 (e1.trans g.ex) _ fun y H3 B g2 hy => hr x y H3 _ (g.join g2).d2 (dp_ex join_l _ _ hx) (dp_ex (join_r (g.d2.trans g2.ex) g2.d2) _ _ hy) Q fun v H4 C g3 hv => q v H4 C
    ⟨(g.ex.trans g2.ex).trans g3.ex, (g.join g2).xd.trans g3.xd, g3.d2, fun a h0 h1 => g3.fr a ((g.join g2).fr a h0 h1) (ne_none (g.ex.trans g2.ex) h1)⟩ hv
theorem ev_opd {r : R2} {z : V} (ha : EvD K ta σ H d) (hb : EvD K tb σ H e) (hr : ∀ x y H1, Dt K H1 x d → Dt K H1 y e → ∀ Q : VK, Q z H1 → r x y H1 Q) : Ev (tOp r ta tb) σ H z := fun H1 e1 Q q =>
  ha H1 e1 _ fun x H2 A g hx => hb H2 (e1.trans g.ex) _ fun y H3 B g2 hy => hr x y H3 (dp_ex (g.d2.trans g2.ex) _ _ hx) (dp_ex g2.d2 _ _ hy) Q (q H3 (g.ex.trans g2.ex))
theorem ev_eq (ha : EvD K ta σ H d) (hb : EvD K tb σ H e) (hd : SeqAt.shaped d = true) (he : SeqAt.shaped e = true) : Ev (tOp (rEqD K) ta tb) σ H (.bl (PyData.eqv d e)) := ev_opd ha hb fun x y H1 hx hy Q q => ⟨d, e, dt_dp _ _ hx, dt_dp _ _ hy, hd, he, q⟩
theorem ev_ne (ha : EvD K ta σ H d) (hb : EvD K tb σ H e) (hd : SeqAt.shaped d = true) (he : SeqAt.shaped e = true) : Ev (tOp (rNeD K) ta tb) σ H (.bl (!PyData.eqv d e)) := ev_opd ha hb fun x y H1 hx hy Q q => ⟨d, e, dt_dp _ _ hx, dt_dp _ _ hy, hd, he, q⟩
/-- an item -/
theorem atI_dp {vs : List V} {ds : List PyData} {i : Int} {d : PyData} (h : DtAll K H vs ds) (e : atI ds i = some d) : ∃ v, atI vs i = some v ∧ Dt K H v d := by
  unfold atI at e ⊢
  rw [dpAll_len h]
  cases q : ixN ds.length i with
  | none => rw [q] at e; cases e
  | some j =>
    rw [q] at e
    exact dpAll_at h e
theorem evd_ixT {ds : List PyData} {i : Int} (ha : EvD K ta σ H (.tuple ds)) (hb : EvD K tb σ H (.int i)) (hi : atI ds i = some d) : EvD K (tOp (rIx K) ta tb) σ H d := evd_op ha hb fun x y H1 A e hx hy Q q => by
  obtain ⟨a, xs, rfl, hs, hall⟩ := dp_tup hx
  cases hy
  obtain ⟨v, hv, hd⟩ := atI_dp hall hi
  exact .inr (.inl ⟨a, xs, i, v, rfl, rfl, ex_t e hs, hv, q v H1 A (Gr.base e (Ex.refl H1)) hd⟩)
theorem evd_ixL {ds : List PyData} {i : Int} (ha : EvD K ta σ H (.list ds)) (hb : EvD K tb σ H (.int i)) (hi : atI ds i = some d) : EvD K (tOp (rIx K) ta tb) σ H d := evd_op ha hb fun x y H1 A e hx hy Q q => by
  obtain ⟨a, xs, rfl, hs, hall⟩ := dp_lst hx
  cases hy
  obtain ⟨v, hv, hd⟩ := atI_dp hall hi
  exact .inl ⟨a, xs, i, v, rfl, rfl, sq_of (e _ _ hs), hv, q v H1 A (Gr.base e (Ex.refl H1)) hd⟩
/-- len -/
theorem ev_lenT {ds : List PyData} (ha : EvD K ta σ H (.tuple ds)) : Ev (tCB (fun xs H Q => ∃ x n, xs = [x] ∧ LenV K x H n ∧ Q (.int n) H) (tCons ta tNil)) σ H (.int (ds.length : Int)) := fun H1 e Q q =>
  ha H1 e _ fun v H2 A g hd => by
    obtain ⟨a, xs, rfl, hs, hall⟩ := dp_tup hd
    exact ⟨_, ds.length, rfl, .inr ⟨xs, ex_t g.d2 hs, (dpAll_len hall).symm⟩, q H2 g.ex⟩
theorem ev_lenL {ds : List PyData} (ha : EvD K ta σ H (.list ds)) : Ev (tCB (fun xs H Q => ∃ x n, xs = [x] ∧ LenV K x H n ∧ Q (.int n) H) (tCons ta tNil)) σ H (.int (ds.length : Int)) := fun H1 e Q q =>
  ha H1 e _ fun v H2 A g hd => by
    obtain ⟨a, xs, rfl, hs, hall⟩ := dp_lst hd
    exact ⟨_, ds.length, rfl, .inl ⟨xs, sq_of (g.d2 _ _ hs), (dpAll_len hall).symm⟩, q H2 g.ex⟩
theorem ev_lenS {x : Str} (ha : EvD K ta σ H (.str x)) (hl : x.length ≤ sizeLine) : Ev (tCB (fun xs H Q => ∃ x n, xs = [x] ∧ LenV K x H n ∧ Q (.int n) H) (tCons ta tNil)) σ H (.int (x.length : Int)) := fun H1 e Q q =>
  ha H1 e _ fun v H2 A g hd => by
    rw [dp_str hd]
    exact ⟨_, x.length, rfl, ⟨hl, rfl⟩, q H2 g.ex⟩
/-- a slice -/
theorem eo_i {i : Int} (h : EvD K te σ H (.int i)) : EvO (tPart te) σ H (some i) := fun H1 e Q q => h H1 e _ fun v H2 A g hd => ⟨i, dp_int hd, q H2 g.ex⟩
def cutD (ds : List PyData) (lo hi : Option Int) : List PyData := (ds.drop (HT.sIx ds.length 0 lo)).take (HT.sIx ds.length ds.length hi - HT.sIx ds.length 0 lo)
theorem cutV_dp {vs : List V} {ds : List PyData} (h : DtAll K H vs ds) (lo hi : Option Int) : DtAll K H (cutV vs lo hi) (cutD ds lo hi) := by
  unfold cutV cutD
  rw [dpAll_len h]
  exact dpAll_take _ (dpAll_drop _ h)
theorem cut_whole {ds : List PyData} {lo hi : Option Int} (h : HT.sIx ds.length 0 lo = 0 ∧ HT.sIx ds.length ds.length hi = ds.length) : cutD ds lo hi = ds := by
  unfold cutD
  rw [h.1, h.2]
  simp
theorem evd_slT {ds : List PyData} {lo hi : TO} {l h : Option Int} (ha : EvD K ta σ H (.tuple ds)) (hl : EvO lo σ H l) (hh : EvO hi σ H h) : EvD K (tSl (rSlU K) ta lo hi) σ H (.tuple (cutD ds l h)) := fun H1 e Q q =>
  ha H1 e _ fun v H2 A g hd => hl H2 (e.trans g.ex) _ fun H3 e3 => hh H3 ((e.trans g.ex).trans e3) _ fun H4 e4 => by
    obtain ⟨a, xs, rfl, hs, hall⟩ := dp_tup hd
    have hl := dpAll_len hall
    have g4 : Gr H H1 H4 A := g.more (e3.trans e4)
    refine .inr (.inl ⟨a, xs, rfl, ex_t g4.d2 hs, fun hw => ?_, fun hw p hp => ?_⟩)
    · rw [hl] at hw
      refine q _ H4 A g4 ?_
      rw [cut_whole hw]
      exact .tup hs hall
    · exact q _ _ _ (g4.new _ hp) (.tup (st_of upd_same) (dpAll_ex (Ex.new (fresh_back g4.d2 hp)) _ _ (cutV_dp hall l h)))
theorem evd_slL {ds : List PyData} {lo hi : TO} {l h : Option Int} (ha : EvD K ta σ H (.list ds)) (hl : EvO lo σ H l) (hh : EvO hi σ H h) : EvD K (tSl (rSlU K) ta lo hi) σ H (.list (cutD ds l h)) := fun H1 e Q q =>
  ha H1 e _ fun v H2 A g hd => hl H2 (e.trans g.ex) _ fun H3 e3 => hh H3 ((e.trans g.ex).trans e3) _ fun H4 e4 => by
    obtain ⟨a, xs, rfl, hs, hall⟩ := dp_lst hd
    have g4 : Gr H H1 H4 A := g.more (e3.trans e4)
    exact .inl ⟨a, xs, rfl, sq_of (g4.d2 _ _ hs), fun p hp => q _ _ _ (g4.new _ hp) (.lst upd_same (dpAll_ex (Ex.new (fresh_back g4.d2 hp)) _ _ (cutV_dp hall l h)))⟩
/-- x in a sequence of flat things -/
def flatD : PyData → Bool
  | .none => true
  | .bool _ => true
  | .int _ => true
  | .str _ => true
  | _ => false
theorem flat_dp {v : V} (h : Dt K H v d) (f : flatD d = true) : flatV v = true := by
  cases h <;> first | rfl | cases f
theorem flats_dp : ∀ {vs : List V} {ds : List PyData}, DtAll K H vs ds → ds.all flatD = true → vs.all flatV = true
  | _, _, .nil, _ => rfl
  | _, _, .cons h t, f => by
    rw [List.all_cons, Bool.and_eq_true] at f ⊢
    exact ⟨flat_dp h f.1, flats_dp t f.2⟩
theorem eqV_dp {x y : V} {d e : PyData} (hx : Dt K H x d) (hy : Dt K H y e) (fd : flatD d = true) (fe : flatD e = true) : eqV x y = PyData.eqv d e := by
  cases hx <;> cases hy <;> first | (simp [flatD] at fd; done) | (simp [flatD] at fe; done) | rfl | (simp only [eqV, PyData.eqv]; done)
def inD (d : PyData) (ds : List PyData) : Bool := ds.any fun e => PyData.eqv e d
theorem inV_dp {x : V} {d : PyData} (hx : Dt K H x d) (fd : flatD d = true) : ∀ {vs : List V} {ds : List PyData}, DtAll K H vs ds → ds.all flatD = true → inV x vs = inD d ds
  | _, _, .nil, _ => rfl
  | _, _, .cons h t, f => by
    rw [List.all_cons, Bool.and_eq_true] at f
    show (eqV _ x || inV x _) = (PyData.eqv _ d || inD d _)
    rw [eqV_dp h hx f.1 fd, inV_dp hx fd t f.2]
theorem ev_inT {neg : Bool} {ds : List PyData} (ha : EvD K ta σ H d) (hb : EvD K tb σ H (.tuple ds)) (fd : flatD d = true) (fs : ds.all flatD = true) : Ev (tOp (rInU K neg) ta tb) σ H (.bl (if neg then !inD d ds else inD d ds)) := ev_opd ha hb fun x y H1 hx hy Q q => by
  obtain ⟨a, xs, rfl, hs, hall⟩ := dp_tup hy
  exact .inl ⟨a, xs, rfl, .inr hs, flat_dp hx fd, flats_dp hall fs, by rw [inV_dp hx fd hall fs]; exact q⟩
theorem ev_inL {neg : Bool} {ds : List PyData} (ha : EvD K ta σ H d) (hb : EvD K tb σ H (.list ds)) (fd : flatD d = true) (fs : ds.all flatD = true) : Ev (tOp (rInU K neg) ta tb) σ H (.bl (if neg then !inD d ds else inD d ds)) := ev_opd ha hb fun x y H1 hx hy Q q => by
  obtain ⟨a, xs, rfl, hs, hall⟩ := dp_lst hy
  exact .inl ⟨a, xs, rfl, .inl (sq_of hs), flat_dp hx fd, flats_dp hall fs, by rw [inV_dp hx fd hall fs]; exact q⟩
theorem ev_inS {neg : Bool} {c : Nat} {z : Str} (ha : EvD K ta σ H (.str ⟨#[c]⟩)) (hb : EvD K tb σ H (.str z)) : Ev (tOp (rInU K neg) ta tb) σ H (.bl (if neg then !decide (c ∈ z.cps.toList) else decide (c ∈ z.cps.toList))) := ev_opd ha hb fun x y H1 hx hy Q q => by
  cases hx
  cases hy
  exact .inr ⟨c, z, rfl, rfl, q⟩
/-- lists, tuples one behind the other -/
theorem evd_addT {ds es : List PyData} (ha : EvD K ta σ H (.tuple ds)) (hb : EvD K tb σ H (.tuple es)) (hl : ds.length + es.length ≤ 100000) : EvD K (tOp (rAddU K) ta tb) σ H (.tuple (ds ++ es)) := evd_op ha hb fun x y H1 A e hx hy Q q => by
  obtain ⟨a, xs, rfl, hs, h1⟩ := dp_tup hx
  obtain ⟨b, ys, rfl, ht, h2⟩ := dp_tup hy
  refine .inr (.inr (.inr ⟨a, b, xs, ys, rfl, rfl, ex_t e hs, ex_t e ht, by rw [dpAll_len h1, dpAll_len h2]; exact sz_of hl, fun z => ?_, fun _ z => ?_, fun _ _ p hp => ?_⟩))
  · subst z
    cases h1
    exact q _ H1 A (Gr.base e (Ex.refl H1)) (.tup ht h2)
  · subst z
    cases h2
    rw [List.append_nil] at q
    exact q _ H1 A (Gr.base e (Ex.refl H1)) (.tup hs h1)
  · exact q _ _ _ ((Gr.base e (Ex.refl H1)).new _ hp) (.tup (st_of upd_same) (dpAll_ex (Ex.new (fresh_back e hp)) _ _ (dpAll_app h1 h2)))
/-- two lists, both of their own (tracked) -/
theorem evd_addL {ds es : List PyData} (ha : EvD K ta σ H (.list ds)) (hb : EvD K tb σ H (.list es)) (hl : ds.length + es.length ≤ 100000) : EvD K (tOp (rAddU K) ta tb) σ H (.list (ds ++ es)) := evd_op ha hb fun x y H1 A e dx dy Q q => by
  obtain ⟨a, xs, rfl, hs, h1⟩ := dp_lst dx
  obtain ⟨b, ys, rfl, ht, h2⟩ := dp_lst dy
  refine .inr (.inr (.inl ⟨a, b, xs, ys, rfl, rfl, e _ _ hs, e _ _ ht, by rw [dpAll_len h1, dpAll_len h2]; exact sz_of hl, fun p hp => ?_⟩))
  exact q _ _ _ ((Gr.base e (Ex.refl H1)).new _ hp) (.lst upd_same (dpAll_ex (Ex.new (fresh_back e hp)) _ _ (dpAll_app h1 h2)))
end
end LC

namespace LC
open PySem L2 Evl
/-! ### a list that is being filled -/
/-- D, new behind H2, holds out; what it holds lies among A's data and what is new -/
def Acc (K : Frag) (A H2 : Hp) (D : Addr) (out : List PyData) (H' : Hp) : Prop := Ex H2 H' ∧ ∃ B acc, H' D = some (.lst acc) ∧ Ex A B ∧ Ex B H' ∧ B D = none ∧ (∀ a, A a = none → H2 a ≠ none → B a = none) ∧ DtAll K B acc out
section
variable {K : Frag} {A H H1 H2 H3 H4 H' H'' C Hd : Hp} {D : Addr} {out : List PyData} {d : PyData} {y : V}
theorem Acc.nil (e : Ex A H2) (hD : H2 D = none) : Acc K A H2 D [] (upd H2 D (.lst [])) :=
  ⟨Ex.new hD, A, [], upd_same, Ex.refl A, e.trans (Ex.new hD), fresh_back e hD, fun _ h _ => h, .nil⟩
theorem Acc.grow (h : Acc K A H2 D out H') (e : Ex H' H'') : Acc K A H2 D out H'' := by
  obtain ⟨x, B, acc, h1, h2, h3, h4, h5, h6⟩ := h
  exact ⟨x.trans e, B, acc, e _ _ h1, h2, h3.trans e, h4, h5, h6⟩
theorem Acc.at (h : Acc K A H2 D out H') : ∃ acc, H' D = some (.lst acc) ∧ acc.length = out.length := by
  obtain ⟨x, B, acc, h1, h2, h3, h4, h5, h6⟩ := h
  exact ⟨acc, h1, dpAll_len h6⟩
theorem Acc.base (h : Acc K A H2 D out H') : Ex A H' := by
  obtain ⟨x, B, acc, h1, h2, h3, h4, h5, h6⟩ := h
  exact h2.trans h3
theorem Acc.start (e : Ex A H2) (x : Ex H2 H') (hD : H2 D = none) (h : H' D = some (.lst [])) : Acc K A H2 D [] H' :=
  ⟨x, A, [], h, Ex.refl A, e.trans x, fresh_back e hD, fun _ h _ => h, .nil⟩
theorem Acc.rebase (h : Acc K A H2 D out H') (x : Ex A Hd) (y : Ex Hd H') (n : Hd D = none) : Acc K Hd H2 D out H' := by
  obtain ⟨x0, B, acc, h1, h2, h3, h4, h5, h6⟩ := h
  refine ⟨x0, join B Hd, acc, h1, join_r h3 y, join_to h3 y, by unfold join; rw [h4]; exact n, fun a ha hn => ?_, dpAll_ex join_l _ _ h6⟩
  have e1 := h5 a (fresh_back x ha) hn
  unfold join
  rw [e1]
  exact ha
theorem ex_upd {B H4 : Hp} {o : HO} (e : Ex B H4) (h : B D = none) : Ex B (upd H4 D o) := fun a u q => by
  rw [upd_ne (ne_of_none q h)]
  exact e a u q
/-- several at once -/
theorem Acc.push' {ys : List V} {ds : List PyData} (h : Acc K A H2 D out H3) (hA : A D = none) (hD : H2 D = none) (g : Gr A H3 H4 C) (hy : DtAll K C ys ds) :
    ∃ acc, H4 D = some (.lst acc) ∧ acc.length = out.length ∧ Acc K A H2 D (out ++ ds) (upd H4 D (.lst (acc ++ ys))) := by
  obtain ⟨x, B, acc, h1, h2, h3, h4, h5, h6⟩ := h
  have cD : C D = none := g.fr D hA (by rw [h1]; exact fun z => nomatch z)
  have bj : Ex B (join B C) := join_l
  have cj : Ex C (join B C) := join_r (h3.trans g.ex) g.d2
  have jD : join B C D = none := by unfold join; rw [h4]; exact cD
  refine ⟨acc, g.ex _ _ h1, dpAll_len h6, Ex.mut (x.trans g.ex) hD, join B C, acc ++ ys, upd_same, h2.trans bj, ex_upd (join_to (h3.trans g.ex) g.d2) jD, jD, fun a h0 hn => ?_, dpAll_app (dpAll_ex bj _ _ h6) (dpAll_ex cj _ _ hy)⟩
  have e1 := h5 a h0 hn
  have e2 := g.fr a h0 (ne_none x hn)
  unfold join
  rw [e1]
  exact e2
theorem Acc.push (h : Acc K A H2 D out H3) (hA : A D = none) (hD : H2 D = none) (g : Gr A H3 H4 C) (hy : Dt K C y d) :
    ∃ acc, H4 D = some (.lst acc) ∧ acc.length = out.length ∧ Acc K A H2 D (out ++ [d]) (upd H4 D (.lst (acc ++ [y]))) := h.push' hA hD g (.cons hy .nil)
theorem Acc.done (h : Acc K A H2 D out H') (xd : Ex H A) (fr : ∀ a, H a = none → H1 a ≠ none → A a = none) (ex : Ex H1 H2) (hD : H2 D = none) : ∃ Hd, Gr H H1 H' Hd ∧ Dt K Hd (.ref D) (.list out) := by
  obtain ⟨x, B, acc, h1, h2, h3, h4, h5, h6⟩ := h
  refine ⟨upd B D (.lst acc), ⟨ex.trans x, (xd.trans h2).trans (Ex.new h4), fun a u q => ?_, fun a h0 hn => ?_⟩, .lst upd_same (dpAll_ex (Ex.new h4) _ _ h6)⟩
  · by_cases e : a = D
    · subst e
      rw [upd_same] at q
      cases q
      exact h1
    · rw [upd_ne e] at q
      exact h3 a u q
  · have ne : a ≠ D := fun z => hn (by rw [z]; exact fresh_back ex hD)
    rw [upd_ne ne]
    exact h5 a (fr a h0 hn) (ne_none ex hn)
end
/-! ### comprehensions over data -/
section
variable {K : Frag} {σ : L2.St} {H : Hp} {te tl : TE} {tt : TT} {j : Nat} {vs : List Nat}
theorem lc_turn {A H2 H' : Hp} {D : Addr} {out : List PyData} {σ2 : L2.St} {b : Bool} {z : PyData} (e : Ex A H2) (hD : H2 D = none) (p : Acc K A H2 D out H') (hl : out.length < 50000) (ht : EvT tt σ2 A b) (he : b = true → EvD K te σ2 A z) :
    tt σ2 H' fun b' H3 => if b' = true then te σ2 H3 fun y H4 => ∃ acc, H4 D = some (.lst acc) ∧ acc.length < sizeLine ∧ Acc K A H2 D (if b then out ++ [z] else out) (upd H4 D (.lst (acc ++ [y]))) else Acc K A H2 D (if b then out ++ [z] else out) H3 := by
  refine ht H' (p.base) _ fun H3 e3 => ?_
  cases b with
  | true =>
    show te σ2 H3 _
    refine he rfl H3 ((p.base).trans e3) _ fun y H4 C g hy => ?_
    obtain ⟨acc, h1, h2, h3⟩ := (p.grow e3).push (fresh_back e hD) hD g hy
    exact ⟨acc, h1, sz_lt (by omega), h3⟩
  | false => exact p.grow e3
theorem take_snoc {ds : List PyData} {i : Nat} {d : PyData} (h : ds[i]? = some d) : ds.take (i + 1) = ds.take i ++ [d] := by
  rw [List.take_add_one, h] <;> rfl
theorem out_snoc {ds : List PyData} {i : Nat} {d : PyData} (f : PyData → Bool) (g : PyData → PyData) (h : ds[i]? = some d) :
    ((ds.take (i + 1)).filter f).map g = if f d then ((ds.take i).filter f).map g ++ [g d] else ((ds.take i).filter f).map g := by
  rw [take_snoc h, List.filter_append, List.map_append]
  cases q : f d with
  | true => simp [q]
  | false => simp [q]
theorem out_len {ds : List PyData} (f : PyData → Bool) (g : PyData → PyData) (i : Nat) : (((ds.take i).filter f).map g).length ≤ ds.length := by
  rw [List.length_map]
  refine Nat.le_trans (List.length_filter_le _ _) ?_
  rw [List.length_take]
  omega
theorem evd_lcT {ds : List PyData} (f : PyData → Bool) (g : PyData → PyData) (h : EvD K tl σ H (.tuple ds)) (hz : ds.length ≤ 40000) (hw : ∀ x, wipe ((wipe σ vs).set j (some x)) vs = wipe σ vs)
    (ht : ∀ x d H1, Ex H H1 → d ∈ ds → Dt K H1 x d → EvT tt ((wipe σ vs).set j (some x)) H1 (f d)) (he : ∀ x d H1, Ex H H1 → d ∈ ds → f d = true → Dt K H1 x d → EvD K te ((wipe σ vs).set j (some x)) H1 (g d)) :
    EvD K (tLc (iSeq K tl) (gName j) tt te vs) σ H (.list ((ds.filter f).map g)) := fun H1 e Q q => by
  refine .inr (.inl (h H1 e _ fun v H2 A gr hd => ?_))
  obtain ⟨a, xs, rfl, hs, hall⟩ := dp_tup hd
  refine ⟨a, rfl, ⟨xs, ex_t gr.d2 hs⟩, fun D hD => ?_⟩
  refine lc_tup (K := K) (a := a) (xs := xs) (fun i H' => Acc K A H2 D (((ds.take i).filter f).map g) H') (Acc.nil gr.d2 hD) (fun i H' _ p => ex_t (p.base) hs) (fun i x H' hi p => ?_) fun H' p => ?_
  · obtain ⟨d, hdi, hx⟩ := dpAll_of hall hi
    have hm : d ∈ ds := List.mem_of_getElem? hdi
    have hl := out_len (ds := ds) f g i
    refine ⟨hw x, ?_⟩
    rw [out_snoc f g hdi]
    exact lc_turn gr.d2 hD p (by omega) (ht x d A gr.xd hm hx) (fun hf => he x d A gr.xd hm hf hx)
  · have p2 : Acc K A H2 D (((ds.take xs.length).filter f).map g) H' := p
    rw [dpAll_len hall, List.take_length] at p2
    obtain ⟨Hd, g1, g2⟩ := p2.done gr.xd gr.fr gr.ex hD
    exact q _ H' Hd g1 g2
theorem evd_lcL {ds : List PyData} (f : PyData → Bool) (g : PyData → PyData) (h : EvD K tl σ H (.list ds)) (hz : ds.length ≤ 40000) (hw : ∀ x, wipe ((wipe σ vs).set j (some x)) vs = wipe σ vs)
    (ht : ∀ x d H1, Ex H H1 → d ∈ ds → Dt K H1 x d → EvT tt ((wipe σ vs).set j (some x)) H1 (f d)) (he : ∀ x d H1, Ex H H1 → d ∈ ds → f d = true → Dt K H1 x d → EvD K te ((wipe σ vs).set j (some x)) H1 (g d)) :
    EvD K (tLc (iSeq K tl) (gName j) tt te vs) σ H (.list ((ds.filter f).map g)) := fun H1 e Q q => by
  refine .inl (h H1 e _ fun v H2 A gr hd => ?_)
  obtain ⟨a, xs, rfl, hs, hall⟩ := dp_lst hd
  refine ⟨a, rfl, ⟨xs, sq_of (gr.d2 _ _ hs)⟩, fun D hD => ?_⟩
  refine lc_list (K := K) (a := a) (xs := xs) (fun i H' => Acc K A H2 D (((ds.take i).filter f).map g) H') (Acc.nil gr.d2 hD) (fun i H' _ p => sq_of (p.base _ _ hs)) (fun i x H' hi p => ?_) fun H' p => ?_
  · obtain ⟨d, hdi, hx⟩ := dpAll_of hall hi
    have hm : d ∈ ds := List.mem_of_getElem? hdi
    have hl := out_len (ds := ds) f g i
    refine ⟨hw x, ?_⟩
    rw [out_snoc f g hdi]
    exact lc_turn gr.d2 hD p (by omega) (ht x d A gr.xd hm hx) (fun hf => he x d A gr.xd hm hf hx)
  · have p2 : Acc K A H2 D (((ds.take xs.length).filter f).map g) H' := p
    rw [dpAll_len hall, List.take_length] at p2
    obtain ⟨Hd, g1, g2⟩ := p2.done gr.xd gr.fr gr.ex hD
    exact q _ H' Hd g1 g2
/-- over a range -/
theorem evd_lcR {ta : TA} {n : Nat} (g : Nat → PyData) (h : EvDs K ta σ H [.int (n : Int)]) (hz : n ≤ 40000) (hw : ∀ x, wipe ((wipe σ vs).set j (some x)) vs = wipe σ vs)
    (he : ∀ i H1, Ex H H1 → i < n → EvD K te ((wipe σ vs).set j (some (.int (i : Int)))) H1 (g i)) :
    EvD K (tLc (iRng1 ta) (gName j) tYes te vs) σ H (.list ((List.range n).map g)) := fun H1 e Q q => h H1 e _ fun ws H2 A gr hd => by
  obtain rfl : ws = [.int (n : Int)] := by
    cases hd with
    | cons h1 h2 => cases h2; rw [dp_int h1]
  refine ⟨n, rfl, by omega, by omega, fun D hD => ?_⟩
  refine lc_range (lo := 0) (n := (n : Int).toNat) (fun i H' => Acc K A H2 D ((List.range i).map g) H') (Acc.nil gr.d2 hD) (fun i H' hi p => ?_) fun H' p => ?_
  · have e0 : (0 : Int) + (i : Int) = (i : Int) := Int.zero_add _
    have hi2 : i < n := by omega
    have key := lc_turn (b := true) (tt := tYes) (te := te) (σ2 := (wipe σ vs).set j (some (.int (i : Int)))) gr.d2 hD p (by rw [List.length_map, List.length_range]; omega) (fun H1 _ _ q => q H1 (Ex.refl H1)) (fun _ => he i A gr.xd hi2)
    have e1 : (List.range (i + 1)).map g = (List.range i).map g ++ [g i] := by rw [List.range_succ, List.map_append] <;> rfl
    show gName j (.int ((0 : Int) + (i : Int))) (wipe σ vs) H' _
    rw [e0]
    refine ⟨hw _, ?_⟩
    rw [e1]
    exact key
  · have p2 : Acc K A H2 D ((List.range (n : Int).toNat).map g) H' := p
    rw [Int.toNat_natCast] at p2
    obtain ⟨Hd, g1, g2⟩ := p2.done gr.xd gr.fr gr.ex hD
    exact q _ H' Hd g1 g2
end
/-! ### a def by its name -/
/-- the module's x is a def that keeps sp -/
def Has (P : Program) (w : World) (K : Frag) (mg : Str → Option Value) (base : Heap) (CX : CXT) (k : Nat) (x : Str) (ps : List Str) (sp : Sp) : Prop :=
  ∃ f fd, FnOk P w K mg base CX k f fd ps sp ∧ Binds K fd ps [] ∧ PySem.W.keepIn K (.ref f) = true ∧ mg x = some (.ref f)
section
variable {X : Cx} {CX : CXT} {k j : Nat} {x : Str} {ps : List Str} {sp : Sp} {E : XK} {p pos : Pos} {e : Expr} {es : List Expr} {t : TA}
theorem pe_has (F : Has X.prog X.w X.K X.mg X.base CX k x ps sp) (hr : Room j X.A) (hk : k ≤ j) (hg : Gl X x) (hx : Passes CX X E) (ha : PA X (e :: es) t) (hdb : (x == ("__debug__" : Str)) = false := by decide)
    (he : starEach (e :: es) X.env = (false, eval e X.env) :: starEach es X.env := by rfl) (hpl : (backTo pos (starEach es X.env)).any (·.1) = false := by rfl) : PE X (.Call (.Name x p) (e :: es) [] pos) (tCall sp [] E t) := by
  obtain ⟨f, fd, G, b, kp, m⟩ := F
  exact pe_call G (hr.mono hk) hg m kp b .nil hx ha hdb he hpl
theorem pe_has0 (F : Has X.prog X.w X.K X.mg X.base CX k x ps sp) (hr : Room j X.A) (hk : k ≤ j) (hg : Gl X x) (hx : Passes CX X E) (hdb : (x == ("__debug__" : Str)) = false := by decide) : PE X (.Call (.Name x p) [] [] pos) (tCall sp [] E tNil) := by
  obtain ⟨f, fd, G, b, kp, m⟩ := F
  exact pe_call0 G (hr.mono hk) hg m kp b .nil hx hdb
end
end LC

namespace LC
open PySem L2 Evl
/-! ### the rules with the written part named (so that a block's reading does not speak of the block) -/
def freeN : List Str := ["len", "isinstance", "range", "tuple", "sorted", "set", "int", "str", "bool", "list", "min", "zip", "enumerate", "dict", "ValueError"]
structure Tx (mg : Str → Option Value) : Prop where
  free : ∀ {x : Str}, x ∈ freeN → mg x = none
abbrev rLenU (K : Frag) : List V → Hp → VK → Prop := fun xs H Q => ∃ x n, xs = [x] ∧ LenV K x H n ∧ Q (.int n) H
abbrev rTupU (K : Frag) : List V → Hp → VK → Prop := fun xs H Q => ∃ p ys, xs = [.ref p] ∧ ((SqL K H p ys ∧ ∀ l, H l = none → Q (.ref l) (upd H l (.tup ys))) ∨ (SqT K H p ys ∧ Q (.ref p) H))
abbrev rLstU (K : Frag) : List V → Hp → VK → Prop := fun xs H Q => ∃ p ys, xs = [.ref p] ∧ (SqL K H p ys ∨ SqT K H p ys) ∧ ∀ l, H l = none → Q (.ref l) (upd H l (.lst ys))
abbrev tTrU (K : Frag) (ta : TE) : TT := fun σ H Q => ta σ H fun x H' => ∃ k, TruV K x H' k ∧ Q k H'
section
variable {X : Cx} {K : Frag} {a : Expr} {ta : TE} {pos : Pos} {x : Str}
theorem kAdd (h : X.K = K) : OpR X (binaryOp .Add) (rAddU K) := h ▸ opAdd
theorem kMul (h : X.K = K) : OpR X (binaryOp .Mult) (rMulU K) := h ▸ opMul
theorem kIn (h : X.K = K) : OpR X (compareOp .In) (rInU K false) := h ▸ opIn
theorem kNotIn (h : X.K = K) : OpR X (compareOp .NotIn) (rInU K true) := h ▸ opNotIn
theorem kEq (h : X.K = K) (hu : X.A.units + 64 < cLine) : OpR X (compareOp .Eq) (rEqD K) := h ▸ op_eqD hu
theorem kNe (h : X.K = K) (hu : X.A.units + 64 < cLine) : OpR X (compareOp .NotEq) (rNeD K) := h ▸ op_neD hu
theorem kSl (h : X.K = K) : SlR X (rSlU K) := h ▸ slU
theorem kIx (h : X.K = K) : IxR X (rIx K) := h ▸ ix_seq
theorem kSeq {tg : Expr} (h : X.K = K) (he : PE X a ta) : PI X tg a (iSeq K ta) := h ▸ pi_seq he
theorem kLen (h : X.K = K) : CallR X (.builtin "len") (rLenU K) := h ▸ call_len
theorem kIsi (h : X.K = K) : CallR X (.builtin "isinstance") (rIsi K) := h ▸ call_isi
theorem kTup (h : X.K = K) : CallR X (.type "tuple") (rTupU K) := h ▸ call_tuple_of
theorem kLst (h : X.K = K) : CallR X (.type "list") (rLstU K) := h ▸ call_list_of
theorem kTruth (h : X.K = K) (ha : PE X a ta) (he : ∀ whole, isTrue a X.env whole = (do let v ← whole; standAt a.pos; holding [v] (truthy v)) := by intro _; rfl) : PT X a (tTrU K ta) := h ▸ pt_truth ha he
theorem kNot (h : X.K = K) (ha : PE X a ta) : PE X (.UnaryOp .Not a pos) (tNotT K ta) := h ▸ pe_notT ha
theorem pe_gint {i : Int} (h : ∃ t, X.mg x = some (.int i t)) (hg : Gl X x := by rfl) (hd : (x == ("__debug__" : Str)) = false := by decide) : PE X (.Name x pos) (tC (.int i)) := by
  obtain ⟨t, h⟩ := h
  exact pe_glob hg h ⟨t, rfl⟩ hd
theorem pe_gstr {z : Str} (h : ∃ t, X.mg x = some (.str z t)) (hg : Gl X x := by rfl) (hd : (x == ("__debug__" : Str)) = false := by decide) : PE X (.Name x pos) (tC (.str z)) := by
  obtain ⟨t, h⟩ := h
  exact pe_glob hg h ⟨t, rfl⟩ hd
theorem pe_gref {a : Addr} (h : X.mg x = some (.ref a)) (hg : Gl X x := by rfl) (hd : (x == ("__debug__" : Str)) = false := by decide) : PE X (.Name x pos) (tC (.ref a)) := pe_glob hg h rfl hd
end
end LC

namespace LC
open PySem L2 Evl
/-! ### more readings -/
/-- texts that are short (all of them are), deep down -/
def okD : PyData → Bool
  | .str s => decide (s.length ≤ 100000) && PyData.strOk s
  | .list ds => okAll ds
  | .tuple ds => okAll ds
  | .dict _ => false
  | _ => true
where okAll : List PyData → Bool
  | [] => true
  | d :: ds => okD d && okAll ds
theorem okAll_mem : ∀ {ds : List PyData} {d : PyData}, okD.okAll ds = true → d ∈ ds → okD d = true
  | [], _, _, h => by cases h
  | e :: ds, d, ho, h => by
    have h2 : (okD e && okD.okAll ds) = true := by
      unfold okD.okAll at ho
      exact ho
    rw [Bool.and_eq_true] at h2
    rcases List.mem_cons.mp h with rfl | h
    · exact h2.1
    · exact okAll_mem h2.2 h
theorem okAll_of : ∀ {ds : List PyData}, (∀ d ∈ ds, okD d = true) → okD.okAll ds = true
  | [], _ => by unfold okD.okAll; rfl
  | e :: ds, h => by
    unfold okD.okAll
    rw [Bool.and_eq_true]
    exact ⟨h e (List.mem_cons_self ..), okAll_of fun d hd => h d (List.mem_cons_of_mem _ hd)⟩
theorem ok_tup {ds : List PyData} (h : okD (.tuple ds) = true) {d : PyData} (hd : d ∈ ds) : okD d = true := okAll_mem (by unfold okD at h; exact h) hd
theorem ok_lst {ds : List PyData} (h : okD (.list ds) = true) {d : PyData} (hd : d ∈ ds) : okD d = true := okAll_mem (by unfold okD at h; exact h) hd
theorem ok_str {s : Str} (h : okD (.str s) = true) : s.length ≤ 100000 := by unfold okD at h; exact of_decide_eq_true (Bool.and_eq_true_iff.mp h).1
theorem shapedS {s : Str} (h : okD (.str s) = true) : SeqAt.shaped (.str s) = true := by
  unfold okD at h
  show (PyData.canLay0 (.str s) && decide (PyData.depth (.str s) ≤ 64)) = true
  unfold PyData.canLay0 PyData.depth
  rw [(Bool.and_eq_true_iff.mp h).2]
  rfl
theorem ok_sign {s : Str} (h : okD (.str s) = true) {c : Nat} (hc : c ∈ s.cps.toList) : okD (.str ⟨#[c]⟩) = true := by
  unfold okD at h ⊢
  have h2 := (Bool.and_eq_true_iff.mp h).2
  unfold PyData.strOk at h2 ⊢
  have h3 : c < 0x110000 := by
    rw [Array.all_eq_true'] at h2
    exact of_decide_eq_true (h2 c (Array.mem_def.mpr hc))
  rw [Bool.and_eq_true]
  exact ⟨rfl, by simp [h3]⟩
theorem ok_tup_of {ds : List PyData} (h : ∀ d ∈ ds, okD d = true) : okD (.tuple ds) = true := by unfold okD; exact okAll_of h
theorem ok_lst_of {ds : List PyData} (h : ∀ d ∈ ds, okD d = true) : okD (.list ds) = true := by unfold okD; exact okAll_of h
/-- truth -/
def truD : PyData → Bool
  | .none => false
  | .bool b => b
  | .int i => i != 0
  | .str s => (s.length : Int) != 0
  | .list ds => !ds.isEmpty
  | .tuple ds => !ds.isEmpty
  | .dict _ => false
section
variable {K : Frag} {σ : L2.St} {H H' : Hp} {ta tb tc te tx : TE} {t u : TT} {d e : PyData}
theorem empty_dp {vs : List V} {ds : List PyData} (h : DtAll K H vs ds) : (!ds.isEmpty) = !vs.isEmpty := by
  cases h <;> rfl
theorem tru_dp {v : V} (h : Dt K H v d) (ok : okD d = true) : TruV K v H (truD d) := by
  cases h with
  | non => rfl
  | bl b => rfl
  | int i => rfl
  | str x => exact ⟨sz_of (ok_str ok), rfl⟩
  | lst hs ha => exact .inl ⟨_, sq_of hs, empty_dp ha⟩
  | tup hs ha => exact .inr (.inl ⟨_, hs, empty_dp ha⟩)
theorem et_d (h : EvD K te σ H d) (ok : okD d = true) : EvT (tTrU K te) σ H (truD d) := fun H1 e Q q =>
  h H1 e _ fun v H2 Hd g hd => ⟨_, tru_dp (dp_ex g.d2 _ _ hd) ok, q H2 g.ex⟩
theorem et_b {b : Bool} (h : Ev te σ H (.bl b)) : EvT (tTrU K te) σ H b := fun H1 e Q q => h H1 e _ fun H2 e2 => ⟨b, rfl, q H2 e2⟩
theorem ev_notD (h : EvD K te σ H d) (ok : okD d = true) : Ev (tNotT K te) σ H (.bl (!truD d)) := fun H1 e Q q =>
  h H1 e _ fun v H2 Hd g hd => ⟨_, tru_dp (dp_ex g.d2 _ _ hd) ok, q H2 g.ex⟩
theorem ev_notB {b : Bool} (h : Ev te σ H (.bl b)) : Ev (tNotT K te) σ H (.bl (!b)) := fun H1 e Q q => h H1 e _ fun H2 e2 => ⟨b, rfl, q H2 e2⟩
/-- a < b < c of ints -/
theorem ev_chain {p q : Int → Int → Bool} {i j k : Int} (ha : EvD K ta σ H (.int i)) (hb : EvD K tb σ H (.int j)) (hc : EvD K tc σ H (.int k)) :
    Ev (tChain (rI0 fun i j => .bl (p i j)) (rI0 fun i j => .bl (q i j)) ta tb tc) σ H (.bl (p i j && q j k)) := fun H1 e Q hq =>
  ev_int ha H1 e _ fun H2 e2 => ev_int hb H2 (e.trans e2) _ fun H3 e3 => ⟨i, j, rfl, rfl, _, rfl, by
    cases hp : p i j with
    | true =>
      show tc σ H3 _
      refine ev_int hc H3 ((e.trans e2).trans e3) _ fun H4 e4 => ⟨j, k, rfl, rfl, ?_⟩
      have := hq H4 ((e2.trans e3).trans e4)
      rw [hp] at this
      exact this
    | false =>
      show Q (.bl false) H3
      have := hq H3 (e2.trans e3)
      rw [hp] at this
      exact this⟩
theorem et_chain {p q : Int → Int → Bool} {i j k : Int} (ha : EvD K ta σ H (.int i)) (hb : EvD K tb σ H (.int j)) (hc : EvD K tc σ H (.int k)) :
    EvT (tTest (tChain (rI0 fun i j => .bl (p i j)) (rI0 fun i j => .bl (q i j)) ta tb tc)) σ H (p i j && q j k) := et_test (ev_chain ha hb hc)
/-- int(flag), int(n) -/
theorem ev_intB {b : Bool} (h : Ev te σ H (.bl b)) : Ev (tCB (fun xs H Q => (∃ i, xs = [.int i] ∧ Q (.int i) H) ∨ ∃ k, xs = [.bl k] ∧ Q (.int (if k then 1 else 0)) H) (tCons te tNil)) σ H (.int (if b then 1 else 0)) := fun H1 e Q q =>
  h H1 e _ fun H2 e2 => .inr ⟨b, rfl, q H2 e2⟩
/-- tuple(list) -/
theorem evd_tupL {ds : List PyData} (h : EvD K te σ H (.list ds)) : EvD K (tCB (rTupU K) (tCons te tNil)) σ H (.tuple ds) := fun H1 e Q q =>
  h H1 e _ fun v H2 A g hd => by
    obtain ⟨a, xs, rfl, hs, hall⟩ := dp_lst hd
    exact ⟨a, xs, rfl, .inl ⟨sq_of (g.d2 _ _ hs), fun l hl => q _ _ _ (g.new _ hl) (.tup (st_of upd_same) (dpAll_ex (Ex.new (fresh_back g.d2 hl)) _ _ hall))⟩⟩
theorem evd_lstT {ds : List PyData} (h : EvD K te σ H (.tuple ds)) : EvD K (tCB (rLstU K) (tCons te tNil)) σ H (.list ds) := fun H1 e Q q =>
  h H1 e _ fun v H2 A g hd => by
    obtain ⟨a, xs, rfl, hs, hall⟩ := dp_tup hd
    exact ⟨a, xs, rfl, .inr (ex_t g.d2 hs), fun l hl => q _ _ _ (g.new _ hl) (.lst upd_same (dpAll_ex (Ex.new (fresh_back g.d2 hl)) _ _ hall))⟩
theorem evd_lstL {ds : List PyData} (h : EvD K te σ H (.list ds)) : EvD K (tCB (rLstU K) (tCons te tNil)) σ H (.list ds) := fun H1 e Q q =>
  h H1 e _ fun v H2 A g hd => by
    obtain ⟨a, xs, rfl, hs, hall⟩ := dp_lst hd
    exact ⟨a, xs, rfl, .inl (sq_of (g.d2 _ _ hs)), fun l hl => q _ _ _ (g.new _ hl) (.lst upd_same (dpAll_ex (Ex.new (fresh_back g.d2 hl)) _ _ hall))⟩
/-- a constant tuple of the module -/
theorem evd_ref {a : Addr} (h : Dt K H (.ref a) d) : EvD K (tC (.ref a)) σ H d := evd_of ev_c h
/-- a comprehension over a text's signs -/
theorem evd_lcS {tl : TE} {tt : TT} {j : Nat} {vs : List Nat} {x : Str} (f : Nat → Bool) (g : Nat → PyData) (h : EvD K tl σ H (.str x)) (hz : x.length ≤ 40000) (hw : ∀ x, wipe ((wipe σ vs).set j (some x)) vs = wipe σ vs)
    (ht : ∀ c H1, Ex H H1 → c ∈ x.cps.toList → EvT tt ((wipe σ vs).set j (some (.str ⟨#[c]⟩))) H1 (f c)) (he : ∀ c H1, Ex H H1 → c ∈ x.cps.toList → f c = true → EvD K te ((wipe σ vs).set j (some (.str ⟨#[c]⟩))) H1 (g c)) :
    EvD K (tLc (iSeq K tl) (gName j) tt te vs) σ H (.list ((x.cps.toList.filter f).map g)) := fun H1 e Q q => by
  refine .inr (.inr (h H1 e _ fun v H2 A gr hd => ⟨x, dp_str hd, fun D hD => ?_⟩))
  have hlen : x.cps.size = x.cps.toList.length := by simp
  have hz2 : x.cps.toList.length ≤ 40000 := by rw [← hlen]; exact hz
  refine ⟨fun i m H' => m = x.cps.size - i ∧ i ≤ x.cps.size ∧ Acc K A H2 D (((x.cps.toList.take i).filter f).map g) H', ⟨x.cps.size, by simp, Nat.zero_le _, Acc.nil gr.d2 hD⟩, ?_⟩
  rintro i m H' ⟨rfl, hi, p⟩
  by_cases hlt : i < x.cps.size
  · refine .inr ⟨hlt, fun H'' => Acc K A H2 D (((x.cps.toList.take (i + 1)).filter f).map g) H'', fun H'' p' => ⟨x.cps.size - (i + 1), by omega, rfl, hlt, p'⟩, ?_⟩
    rintro y H'' ⟨rfl, c, hc, rfl⟩
    have hc2 : x.cps.toList[i]? = some c := by rw [Array.getElem?_toList]; exact hc
    have hm : c ∈ x.cps.toList := List.mem_of_getElem? hc2
    have e1 : ((x.cps.toList.take (i + 1)).filter f).map g = if f c then ((x.cps.toList.take i).filter f).map g ++ [g c] else ((x.cps.toList.take i).filter f).map g := by
      rw [List.take_add_one, hc2, Option.toList, List.filter_append, List.map_append]
      cases q : f c with
      | true => simp [q]
      | false => simp [q]
    refine ⟨hw _, ?_⟩
    rw [e1]
    refine lc_turn gr.d2 hD p ?_ (ht c A gr.xd hm) (fun hf => he c A gr.xd hm hf)
    rw [List.length_map]
    have := List.length_filter_le f (x.cps.toList.take i)
    rw [List.length_take] at this
    omega
  · refine .inl ⟨by show x.cps.size ≤ i; omega, ?_⟩
    have ei : i = x.cps.toList.length := by omega
    subst ei
    rw [List.take_length] at p
    obtain ⟨Hd, g1, g2⟩ := p.done gr.xd gr.fr gr.ex hD
    exact q _ H' Hd g1 g2
end
end LC

namespace LC
open PySem L2 Evl
/-! ### sources: what the defs compute, over plain data -/
def smallS : Str := "abcdefghijklmnopqrstuvwxyz"
def wordsS : List Str := ["add", "less", "times", "over", "same"]
def barredS : List Str := ["add", "less", "times", "over", "same", "if", "set", "show"]
def isWithin (d : PyData) (lo hi : Int) : Bool := match d with
  | .int i => decide (lo ≤ i) && decide (i ≤ hi)
  | _ => false
def nameS (s : Str) : Bool := (decide (1 ≤ s.length) && decide (s.length ≤ 4)) && (!decide (s ∈ barredS) && s.cps.toList.all fun c => decide (c ∈ smallS.cps.toList))
def isName : PyData → Bool
  | .str s => nameS s
  | _ => false
def sumHead (w : Str) (n : Nat) : Bool := decide (w ∈ wordsS) && n == 3 || decide (w = "if") && n == 4
def isSum : Nat → PyData → Bool
  | _, .str s => nameS s
  | n + 1, .tuple (.str w :: r) => sumHead w (r.length + 1) && r.all (isSum n)
  | _, .tuple _ => false
  | _, d => isWithin d 0 9999
def isRow : PyData → Bool
  | .tuple [.str w, a] => decide (w = "show") && isSum 6 a
  | .tuple [.str w, x, a] => decide (w = "set") && (isName x && isSum 6 a)
  | _ => false
def isSource : PyData → Bool
  | .tuple rs => decide (rs.length ≤ 8) && rs.all isRow
  | _ => false
theorem inD_str {s : Str} : ∀ {l : List Str}, inD (.str s) (l.map PyData.str) = decide (s ∈ l)
  | [] => by simp [inD]
  | x :: l => by
    have ih := inD_str (s := s) (l := l)
    show (PyData.eqv (.str x) (.str s) || inD (.str s) (l.map PyData.str)) = decide (s ∈ x :: l)
    rw [ih]
    show ((x == s) || decide (s ∈ l)) = decide (s ∈ x :: l)
    by_cases h : s = x
    · subst h; simp
    · have h2 : (x == s) = false := by simpa using fun z => h z.symm
      rw [h2, Bool.false_or]
      by_cases q : s ∈ l
      · simp [q]
      · simp [q, h]
theorem flat_strs (l : List Str) : (l.map PyData.str).all flatD = true := by
  rw [List.all_map]
  simp [flatD, Function.comp_def]
/-- the shapes of data: what the tests on a sum look at -/
theorem isSum_nontup {n : Nat} {d : PyData} (h1 : isT d "str" = false) (h2 : isT d "tuple" = false) : isSum n d = isWithin d 0 9999 := by
  cases d with
  | str s => simp [isT, tyN] at h1
  | tuple ds => simp [isT, tyN] at h2
  | _ => cases n <;> simp [isSum]
theorem isT_str {d : PyData} (h : isT d "str" = true) : ∃ s, d = .str s := by
  cases d <;> simp [isT, tyN] at h
  exact ⟨_, rfl⟩
theorem isT_tup {d : PyData} (h : isT d "tuple" = true) : ∃ ds, d = .tuple ds := by
  cases d <;> simp [isT, tyN] at h
  exact ⟨_, rfl⟩
theorem within_eq (d : PyData) (lo hi : Int) : (isT d "int" && (!isT d "bool" && isWithin d lo hi)) = isWithin d lo hi := by
  cases d <;> simp [isT, tyN, isWithin]
def F_is_within (ds : List PyData) (d : PyData) : Prop := ∃ x lo hi, ds = [x, .int lo, .int hi] ∧ d = .bool (isWithin x lo hi)
def F_is_name (ds : List PyData) (d : PyData) : Prop := ∃ x, ds = [x] ∧ okD x = true ∧ d = .bool (isName x)
def F_is_sum (n : Nat) (ds : List PyData) (d : PyData) : Prop := ∃ x, ds = [x, .int (n : Int)] ∧ okD x = true ∧ d = .bool (isSum n x)
def F_is_row (ds : List PyData) (d : PyData) : Prop := ∃ x, ds = [x] ∧ okD x = true ∧ d = .bool (isRow x)
def F_is_source (ds : List PyData) (d : PyData) : Prop := ∃ x, ds = [x] ∧ okD x = true ∧ d = .bool (isSource x)
theorem dts1 {K : Frag} {H : Hp} {vs : List V} {a : PyData} (h : DtAll K H vs [a]) : ∃ x, vs = [x] ∧ Dt K H x a := by
  cases h with
  | cons h1 h2 => cases h2; exact ⟨_, rfl, h1⟩
theorem dts2 {K : Frag} {H : Hp} {vs : List V} {a b : PyData} (h : DtAll K H vs [a, b]) : ∃ x y, vs = [x, y] ∧ Dt K H x a ∧ Dt K H y b := by
  cases h with
  | cons h1 h2 =>
    obtain ⟨y, rfl, hy⟩ := dts1 h2
    exact ⟨_, _, rfl, h1, hy⟩
theorem dts3 {K : Frag} {H : Hp} {vs : List V} {a b c : PyData} (h : DtAll K H vs [a, b, c]) : ∃ x y z, vs = [x, y, z] ∧ Dt K H x a ∧ Dt K H y b ∧ Dt K H z c := by
  cases h with
  | cons h1 h2 =>
    obtain ⟨y, z, rfl, hy, hz⟩ := dts2 h2
    exact ⟨_, _, _, rfl, h1, hy, hz⟩
end LC
namespace LC
open PySem L2 Evl
theorem cut_tail (w : PyData) (r : List PyData) : cutD (w :: r) (some 1) none = r := by
  unfold cutD
  have e1 : HT.sIx (w :: r).length 0 (some 1) = 1 := by
    have := HT.sIx_nat (w :: r).length 0 1
    rw [show ((1 : Nat) : Int) = 1 from rfl] at this
    rw [this]
    simp
  rw [e1, HT.sIx_none]
  simp
end LC
namespace LC
open PySem L2 Evl
theorem atI_0 {α : Type} (w : α) (r : List α) : atI (w :: r) 0 = some w := by simp [atI, ixN]
theorem atI_1 {α : Type} (w z : α) (r : List α) : atI (w :: z :: r) 1 = some z := by
  have h : (1 : Int) < ((r.length + 1 + 1 : Nat) : Int) := by omega
  simp [atI, ixN]
  rw [if_pos (by omega)]
  rfl
theorem atI_2 {α : Type} (w z y : α) (r : List α) : atI (w :: z :: y :: r) 2 = some y := by
  simp [atI, ixN]
  rw [if_pos (by omega)]
  rfl
end LC

namespace LC
open PySem PySem.Spec PyProof.Rows L2 Evl
abbrev FnP (K : Frag) (x q : Str) (st : Stmt) (f : Addr) (fd : FuncData) : Prop := FunD K x q (defArgs st) (defBody st) (defScope st) [] [] f fd
section
variable {P : Program} {w : World} {K : Frag} {mg : Str → Option Value} {base : Heap} {x q : Str} {st : Stmt} {f : Addr} {fd : FuncData} {N ps : List Str} {k : Nat}
/-- a def over data -/
theorem has_d {FF : List PyData → PyData → Prop} (F : FnP K x q st f fd) (g : mg x = some (.ref f)) (b : Binds K fd ps []) (S : FnScope N ps (defScope st)) (hl : ∀ ds d, FF ds d → ds.length = ps.length)
    (hbody : ∀ (cdv : Value) (A : Around) (outer : List Env) (s : Shared) (H : Hp) (vs : List V) (Q : VK) (E : XK) (ds : List PyData) (d : PyData) (H0 : Hp), Room k (A.deeper (envOfC q (defScope st) s.heap.objs.size f cdv)) →
      Ex H0 H → DtAll K H0 vs ds → FF ds d → (∀ v H2 Hd, Gr H0 H H2 Hd → Dt K Hd v d → Q v H2) →
      ∃ t, PSs (cxOf CX0 P w K mg base N q (defScope st) f cdv A outer s H E).nox (defBody st) t ∧ t { nx := fun _ H' => Q .non H', rt := Q } (start N vs) H) : Has P w K mg base CX0 (k + 1) x ps (spD K FF) := by
  refine ⟨f, fd, F.ok S (fun vs H Q E h => ?_) (fun cdv A outer s H vs Q E hr h => ?_), b, F.kp, g⟩
  · obtain ⟨ds, d, H0, _, hd, hf, _⟩ := h
    rw [dpAll_len hd]
    exact hl ds d hf
  · obtain ⟨ds, d, H0, e, hd, hf, hq⟩ := h
    obtain ⟨t, ht, r⟩ := hbody cdv A outer s H vs Q E ds d H0 hr e hd hf hq
    exact ⟨t, PSs.nox ht, r⟩
end
end LC
namespace LC
open PySem PySem.Spec PyProof.Rows L2 Evl
section
variable {K : Frag} {H0 H H1 : Hp} {d : PyData} {Q : VK} {σ : L2.St} {t : TT} {tu tw : TS} {D : Ends} {te : TE}
/-- what is wanted of a def's answer -/
abbrev Rt (K : Frag) (H0 H : Hp) (d : PyData) (Q : VK) : Prop := ∀ v H2 Hd, Gr H0 H H2 Hd → Dt K Hd v d → Q v H2
theorem Rt.go (k : Rt K H0 H d Q) (e : Ex H H1) : Rt K H0 H1 d Q := fun v H2 Hd g => k v H2 Hd (g.after e)
theorem s_yes (h : EvT t σ H0 true) (x : Ex H0 H) (k : ∀ H1, Ex H H1 → tu D σ H1) : tIfS t tu tw D σ H := s_ifD h x (fun _ => k) fun z => nomatch z
theorem s_nay (h : EvT t σ H0 false) (x : Ex H0 H) (k : ∀ H1, Ex H H1 → tw D σ H1) : tIfS t tu tw D σ H := s_ifD h x (fun z => nomatch z) fun _ => k
theorem Rt.ret {d' : PyData} (k : Rt K H0 H d D.rt) (x : Ex H0 H) (h : EvD K te σ H0 d') (e : d' = d) : tRet te D σ H := s_retD (evd_is h e) x k
end
section
variable {P : Program} {w : World} {K : Frag} {mg : Str → Option Value} {base : Heap} {x q : Str} {st : Stmt} {f : Addr} {fd : FuncData} {N ps : List Str} {k : Nat} {CX : CXT}
/-- a def that is not called -/
theorem has_never (F : FnP K x q st f fd) (g : mg x = some (.ref f)) (b : Binds K fd ps []) (FF : List PyData → PyData → Prop) (hn : ∀ ds d, ¬ FF ds d) : Has P w K mg base CX k x ps (spD K FF) :=
  ⟨f, fd, ⟨fun vs H Q E h => by
    obtain ⟨ds, d, H0, _, _, hf, _⟩ := h
    exact (hn ds d hf).elim, fun A outer s H args us vs Q E _ _ _ _ h => by
    obtain ⟨ds, d, H0, _, _, hf, _⟩ := h
    exact (hn ds d hf).elim⟩, b, F.kp, g⟩
/-- what a def promises one level less deep -/
def Fprev (F : Nat → List PyData → PyData → Prop) : Nat → List PyData → PyData → Prop
  | 0 => fun _ _ => False
  | n + 1 => F n
end
end LC

namespace LC
open PySem L2 Evl
/-! ### sums, rows, sources as trees -/
inductive Sm where
  | num (i : Int)
  | nm (x : Str)
  | op (w : Str) (a b : Sm)
  | ite (a b c : Sm)
  deriving DecidableEq
inductive Rw where
  | set (x : Str) (s : Sm)
  | shw (s : Sm)
  deriving DecidableEq
abbrev Src := List Rw
def Sm.enc : Sm → PyData
  | .num i => .int i
  | .nm x => .str x
  | .op w a b => .tuple [.str w, a.enc, b.enc]
  | .ite a b c => .tuple [.str "if", a.enc, b.enc, c.enc]
def Rw.enc : Rw → PyData
  | .set x s => .tuple [.str "set", .str x, s.enc]
  | .shw s => .tuple [.str "show", s.enc]
def encS (src : Src) : PyData := .tuple (src.map Rw.enc)
def Sm.depth : Sm → Nat
  | .num _ => 0
  | .nm _ => 0
  | .op _ a b => max a.depth b.depth + 1
  | .ite a b c => max a.depth (max b.depth c.depth) + 1
def Sm.good : Sm → Bool
  | .num i => decide (0 ≤ i) && decide (i ≤ 9999)
  | .nm x => nameS x
  | .op w a b => decide (w ∈ wordsS) && (a.good && b.good)
  | .ite a b c => a.good && (b.good && c.good)
def Rw.sum : Rw → Sm
  | .set _ s => s
  | .shw s => s
def Rw.good : Rw → Bool
  | .set x s => nameS x && (s.good && decide (s.depth ≤ 6))
  | .shw s => s.good && decide (s.depth ≤ 6)
def goodS (src : Src) : Bool := decide (src.length ≤ 8) && src.all Rw.good
theorem noIf : ¬ (("if" : Str) ∈ wordsS) := by decide +kernel
theorem isSum_enc : ∀ (s : Sm) (n : Nat), s.good = true → s.depth ≤ n → isSum n s.enc = true
  | .num i, n, h, _ => by
    have h : (decide (0 ≤ i) && decide (i ≤ 9999)) = true := h
    cases n <;> exact h
  | .nm x, n, h, _ => by cases n <;> exact h
  | .op w a b, n, h, hd => by
    have h : (decide (w ∈ wordsS) && (a.good && b.good)) = true := h
    simp only [Bool.and_eq_true] at h
    have hd : max a.depth b.depth + 1 ≤ n := hd
    cases n with
    | zero => omega
    | succ n =>
      show (sumHead w 3 && [a.enc, b.enc].all (isSum n)) = true
      have e : sumHead w 3 = true := by
        unfold sumHead
        rw [h.1]
        rfl
      rw [e, Bool.true_and]
      simp only [List.all_cons, List.all_nil, Bool.and_true, Bool.and_eq_true]
      exact ⟨isSum_enc a n h.2.1 (by omega), isSum_enc b n h.2.2 (by omega)⟩
  | .ite a b c, n, h, hd => by
    have h : (a.good && (b.good && c.good)) = true := h
    simp only [Bool.and_eq_true] at h
    have hd : max a.depth (max b.depth c.depth) + 1 ≤ n := hd
    cases n with
    | zero => omega
    | succ n =>
      show (sumHead "if" 4 && [a.enc, b.enc, c.enc].all (isSum n)) = true
      have e : sumHead "if" 4 = true := by decide +kernel
      rw [e, Bool.true_and]
      simp only [List.all_cons, List.all_nil, Bool.and_true, Bool.and_eq_true]
      exact ⟨isSum_enc a n h.1 (by omega), isSum_enc b n h.2.1 (by omega), isSum_enc c n h.2.2 (by omega)⟩
theorem isRow_enc (r : Rw) (h : r.good = true) : isRow r.enc = true := by
  cases r with
  | set x s =>
    have h : (nameS x && (s.good && decide (s.depth ≤ 6))) = true := h
    simp only [Bool.and_eq_true, decide_eq_true_eq] at h
    show (decide (("set" : Str) = "set") && (isName (.str x) && isSum 6 s.enc)) = true
    rw [isSum_enc s 6 h.2.1 h.2.2]
    show (decide (("set" : Str) = "set") && (nameS x && true)) = true
    rw [h.1]
    decide
  | shw s =>
    have h : (s.good && decide (s.depth ≤ 6)) = true := h
    simp only [Bool.and_eq_true, decide_eq_true_eq] at h
    show (decide (("show" : Str) = "show") && isSum 6 s.enc) = true
    rw [isSum_enc s 6 h.1 h.2]
    decide
theorem isSource_enc (src : Src) (h : goodS src = true) : isSource (encS src) = true := by
  unfold goodS at h
  simp only [Bool.and_eq_true, decide_eq_true_eq, List.all_eq_true] at h
  show (decide ((src.map Rw.enc).length ≤ 8) && (src.map Rw.enc).all isRow) = true
  rw [List.length_map, List.all_map]
  simp only [Bool.and_eq_true, decide_eq_true_eq, List.all_eq_true]
  exact ⟨h.1, fun r hr => isRow_enc r (h.2 r hr)⟩
/-! names are short and plain -/
theorem sm_small {c : Nat} (h : c ∈ smallS.cps.toList) : c < 128 := by
  have q : smallS.cps.toList.all (fun c => decide (c < 128)) = true := by decide +kernel
  exact of_decide_eq_true (List.all_eq_true.mp q c h)
theorem ok_of_name {x : Str} (h : nameS x = true) : okD (.str x) = true := by
  unfold nameS at h
  simp only [Bool.and_eq_true, decide_eq_true_eq, List.all_eq_true] at h
  unfold okD PyData.strOk
  rw [Bool.and_eq_true, Array.all_eq_true']
  refine ⟨decide_eq_true (by omega), fun c hc => decide_eq_true ?_⟩
  have := sm_small (h.2.2 c (Array.mem_def.mp hc))
  omega
theorem ok_word {w : Str} (h : w ∈ wordsS) : okD (.str w) = true := by
  have q : wordsS.all (fun w => okD (.str w)) = true := by decide +kernel
  exact List.all_eq_true.mp q w h
theorem ok_if : okD (.str "if") = true := by decide +kernel
theorem ok_set : okD (.str "set") = true := by decide +kernel
theorem ok_show : okD (.str "show") = true := by decide +kernel
theorem ok_int (i : Int) : okD (.int i) = true := rfl
theorem ok_sum : ∀ (s : Sm), s.good = true → okD s.enc = true
  | .num i, _ => rfl
  | .nm x, h => ok_of_name h
  | .op w a b, h => by
    have h : (decide (w ∈ wordsS) && (a.good && b.good)) = true := h
    simp only [Bool.and_eq_true, decide_eq_true_eq] at h
    refine ok_tup_of fun d hd => ?_
    simp only [List.mem_cons, List.not_mem_nil, or_false] at hd
    rcases hd with rfl | rfl | rfl
    · exact ok_word h.1
    · exact ok_sum a h.2.1
    · exact ok_sum b h.2.2
  | .ite a b c, h => by
    have h : (a.good && (b.good && c.good)) = true := h
    simp only [Bool.and_eq_true] at h
    refine ok_tup_of fun d hd => ?_
    simp only [List.mem_cons, List.not_mem_nil, or_false] at hd
    rcases hd with rfl | rfl | rfl | rfl
    · exact ok_if
    · exact ok_sum a h.1
    · exact ok_sum b h.2.1
    · exact ok_sum c h.2.2
theorem Rw.good_sum {r : Rw} (h : r.good = true) : r.sum.good = true ∧ r.sum.depth ≤ 6 := by
  cases r with
  | set x s =>
    have h : (nameS x && (s.good && decide (s.depth ≤ 6))) = true := h
    simp only [Bool.and_eq_true, decide_eq_true_eq] at h
    exact h.2
  | shw s =>
    have h : (s.good && decide (s.depth ≤ 6)) = true := h
    simp only [Bool.and_eq_true, decide_eq_true_eq] at h
    exact h
theorem ok_row (r : Rw) (h : r.good = true) : okD r.enc = true := by
  cases r with
  | set x s =>
    have h : (nameS x && (s.good && decide (s.depth ≤ 6))) = true := h
    simp only [Bool.and_eq_true, decide_eq_true_eq] at h
    refine ok_tup_of fun d hd => ?_
    simp only [List.mem_cons, List.not_mem_nil, or_false] at hd
    rcases hd with rfl | rfl | rfl
    · exact ok_set
    · exact ok_of_name h.1
    · exact ok_sum s h.2.1
  | shw s =>
    have h : (s.good && decide (s.depth ≤ 6)) = true := h
    simp only [Bool.and_eq_true, decide_eq_true_eq] at h
    refine ok_tup_of fun d hd => ?_
    simp only [List.mem_cons, List.not_mem_nil, or_false] at hd
    rcases hd with rfl | rfl
    · exact ok_show
    · exact ok_sum s h.1
theorem goodS_row {src : Src} (h : goodS src = true) {r : Rw} (hr : r ∈ src) : r.good = true := by
  unfold goodS at h
  simp only [Bool.and_eq_true, List.all_eq_true] at h
  exact h.2 r hr
theorem goodS_len {src : Src} (h : goodS src = true) : src.length ≤ 8 := by
  unfold goodS at h
  simp only [Bool.and_eq_true, decide_eq_true_eq] at h
  exact h.1
theorem ok_src (src : Src) (h : goodS src = true) : okD (encS src) = true := by
  refine ok_tup_of fun d hd => ?_
  obtain ⟨r, hr, rfl⟩ := List.mem_map.mp hd
  exact ok_row r (goodS_row h hr)
/-! names in sums; what a source sets and reads -/
def Sm.names : Sm → List Str
  | .num _ => []
  | .nm x => [x]
  | .op _ a b => a.names ++ b.names
  | .ite a b c => a.names ++ (b.names ++ c.names)
def Rw.sets : Rw → List Str
  | .set x _ => [x]
  | .shw _ => []
def setsOf (src : Src) : List Str := src.flatMap Rw.sets
/-- found, mine -/
def readsGo (acc : List Str × List Str) (r : Rw) : List Str × List Str :=
  (r.sum.names.foldl (fun f x => if x ∈ acc.2 ∨ x ∈ f then f else f ++ [x]) acc.1, acc.2 ++ r.sets)
def readsOf (src : Src) : List Str := (src.foldl readsGo ([], [])).1
theorem names_len : ∀ (s : Sm), s.names.length ≤ 3 ^ s.depth
  | .num _ => by simp [Sm.names]
  | .nm _ => by simp [Sm.names, Sm.depth]
  | .op w a b => by
    have h1 := names_len a
    have h2 := names_len b
    show (a.names ++ b.names).length ≤ 3 ^ (max a.depth b.depth + 1)
    rw [List.length_append, Nat.pow_succ]
    have m1 : 3 ^ a.depth ≤ 3 ^ max a.depth b.depth := Nat.pow_le_pow_right (by omega) (by omega)
    have m2 : 3 ^ b.depth ≤ 3 ^ max a.depth b.depth := Nat.pow_le_pow_right (by omega) (by omega)
    omega
  | .ite a b c => by
    have h1 := names_len a
    have h2 := names_len b
    have h3 := names_len c
    show (a.names ++ (b.names ++ c.names)).length ≤ 3 ^ (max a.depth (max b.depth c.depth) + 1)
    rw [List.length_append, List.length_append, Nat.pow_succ]
    have m1 : 3 ^ a.depth ≤ 3 ^ max a.depth (max b.depth c.depth) := Nat.pow_le_pow_right (by omega) (by omega)
    have m2 : 3 ^ b.depth ≤ 3 ^ max a.depth (max b.depth c.depth) := Nat.pow_le_pow_right (by omega) (by omega)
    have m3 : 3 ^ c.depth ≤ 3 ^ max a.depth (max b.depth c.depth) := Nat.pow_le_pow_right (by omega) (by omega)
    omega
end LC

namespace LC
open PySem PySem.Spec PyProof.Rows L2 Evl
/-! ### statements over data: a list that grows, a for over a tuple -/
section
variable {K : Frag} {A H Hs H' : Hp} {p : Addr} {out ds : List PyData} {d : PyData} {σ : L2.St} {te tl : TE} {i : Nat} {D : Ends} {g : TG} {tu : TS}
theorem s_new {ta : TA} (h : EvDs K ta σ A []) (x : Ex A H) (k : ∀ p H1, H p = none → Acc K A H p [] H1 → D.nx (σ.set i (some (.ref p))) H1) : tAsg (tLst ta) (gName i) D σ H := h H x _ fun vs H2 Hd gr hd => by
  cases hd
  exact ⟨Nat.zero_le _, fun p hp => k p _ (fresh_back gr.ex hp) (Acc.start x (gr.ex.trans (Ex.new hp)) (fresh_back gr.ex hp) upd_same)⟩
theorem s_ext (hs : σ[i]? = some (some (.ref p))) (a : Acc K A Hs p out H) (hA : A p = none) (hD : Hs p = none) (h : EvD K te σ A (.list ds)) (hl : out.length + ds.length ≤ 100000)
    (k : ∀ H', Acc K A Hs p (out ++ ds) H' → (∀ Hd, Ex Hd H → Hd p = none → Ex Hd H') → D.nx σ H') : tDrop (tBM K "list" rExtend (tVar i) (tCons te tNil)) D σ H := by
  obtain ⟨acc, h1, h2⟩ := a.at
  refine ⟨.ref p, hs, .inl ⟨rfl, acc, sq_of h1⟩, h H a.base _ fun v H2 C gr hd => ?_⟩
  obtain ⟨b, zs, rfl, hb, hall⟩ := dp_lst hd
  obtain ⟨acc', e1, e2, e3⟩ := a.push' hA hD gr hall
  exact ⟨p, b, acc', zs, rfl, rfl, e1, gr.d2 _ _ hb, by rw [e2, dpAll_len hall]; exact sz_of hl, k _ e3 fun Hd x n => ex_upd (x.trans gr.ex) n⟩
theorem s_app (hs : σ[i]? = some (some (.ref p))) (a : Acc K A Hs p out H) (hA : A p = none) (hD : Hs p = none) (h : EvD K te σ A d) (hl : out.length < 100000)
    (k : ∀ H', Acc K A Hs p (out ++ [d]) H' → (∀ Hd, Ex Hd H → Hd p = none → Ex Hd H') → D.nx σ H') : tDrop (tBM K "list" rAppend (tVar i) (tCons te tNil)) D σ H := by
  obtain ⟨acc, h1, h2⟩ := a.at
  refine ⟨.ref p, hs, .inl ⟨rfl, acc, sq_of h1⟩, h H a.base _ fun v H2 C gr hd => ?_⟩
  obtain ⟨acc', e1, e2, e3⟩ := a.push hA hD gr hd
  exact ⟨p, acc', v, rfl, rfl, e1, sz_lt (by omega), k _ e3 fun Hd x n => ex_upd (x.trans gr.ex) n⟩
/-- the list that was filled, as data -/
theorem Acc.var (a : Acc K A Hs p out H) : ∃ Hd, Ex Hd H ∧ Dt K Hd (.ref p) (.list out) := by
  obtain ⟨x, B, acc, h1, h2, h3, h4, h5, h6⟩ := a
  refine ⟨upd B p (.lst acc), fun b u q => ?_, .lst upd_same (dpAll_ex (Ex.new h4) _ _ h6)⟩
  by_cases e : b = p
  · subst e
    rw [upd_same] at q
    cases q
    exact h1
  · rw [upd_ne e] at q
    exact h3 b u q
theorem Acc.here (a : Acc K A Hs p out H) : Dt K H (.ref p) (.list out) := by
  obtain ⟨Hd, x, h⟩ := a.var
  exact dp_ex x _ _ h
theorem s_forT (h : EvD K tl σ A (.tuple ds)) (x : Ex A H)
    (k : ∀ H1 Hd, Gr A H H1 Hd → ∃ Pv : Nat → L2.St → Hp → Prop, Pv 0 σ H1 ∧ (∀ i σ' H', Pv i σ' H' → Ex Hd H') ∧
      (∀ i v d σ' H', ds[i]? = some d → Dt K Hd v d → Pv i σ' H' → g v σ' H' fun σ2 H2 => tu { D with nx := Pv (i + 1), ct := Pv (i + 1), bk := D.nx } σ2 H2) ∧ ∀ σ' H', Pv ds.length σ' H' → D.nx σ' H') : tFor (iSeq K tl) g tu D σ H := by
  refine .inr (.inl (h H x _ fun v H1 Hd gr hd => ?_))
  obtain ⟨a, xs, rfl, hs, hall⟩ := dp_tup hd
  obtain ⟨Pv, p0, pb, ps, pe⟩ := k H1 Hd gr
  refine ⟨a, rfl, ⟨xs, ex_t gr.d2 hs⟩, for_tup (K := K) (a := a) (xs := xs) Pv p0 (fun i σ' H' _ q => ex_t (pb i σ' H' q) hs) (fun i y σ' H' hi q => ?_) fun σ' H' q => pe σ' H' (by rw [← dpAll_len hall]; exact q)⟩
  obtain ⟨d, hdi, hx⟩ := dpAll_of hall hi
  exact ps i y d σ' H' hdi hx q
theorem s_forL (h : EvD K tl σ A (.list ds)) (x : Ex A H)
    (k : ∀ H1 Hd, Gr A H H1 Hd → ∃ Pv : Nat → L2.St → Hp → Prop, Pv 0 σ H1 ∧ (∀ i σ' H', Pv i σ' H' → Ex Hd H') ∧
      (∀ i v d σ' H', ds[i]? = some d → Dt K Hd v d → Pv i σ' H' → g v σ' H' fun σ2 H2 => tu { D with nx := Pv (i + 1), ct := Pv (i + 1), bk := D.nx } σ2 H2) ∧ ∀ σ' H', Pv ds.length σ' H' → D.nx σ' H') : tFor (iSeq K tl) g tu D σ H := by
  refine .inl (h H x _ fun v H1 Hd gr hd => ?_)
  obtain ⟨a, xs, rfl, hs, hall⟩ := dp_lst hd
  obtain ⟨Pv, p0, pb, ps, pe⟩ := k H1 Hd gr
  refine ⟨a, rfl, ⟨xs, sq_of (gr.d2 _ _ hs)⟩, for_list (K := K) (a := a) (xs := xs) Pv p0 (fun i σ' H' _ q => sq_of (pb i σ' H' q _ _ hs)) (fun i y σ' H' hi q => ?_) fun σ' H' q => pe σ' H' (by rw [← dpAll_len hall]; exact q)⟩
  obtain ⟨d, hdi, hx⟩ := dpAll_of hall hi
  exact ps i y d σ' H' hdi hx q
end
def F_names_in (n : Nat) (ds : List PyData) (d : PyData) : Prop := ∃ s : Sm, ds = [s.enc] ∧ s.depth ≤ n ∧ s.depth ≤ 6 ∧ d = .list (s.names.map PyData.str)
def F_sets_of (ds : List PyData) (d : PyData) : Prop := ∃ src : Src, ds = [encS src] ∧ goodS src = true ∧ d = .list ((setsOf src).map PyData.str)
def F_reads_of (ds : List PyData) (d : PyData) : Prop := ∃ src : Src, ds = [encS src] ∧ goodS src = true ∧ d = .list ((readsOf src).map PyData.str)
def Sm.parts : Sm → List Sm
  | .op _ a b => [a, b]
  | .ite a b c => [a, b, c]
  | _ => []
theorem Sm.names_parts (s : Sm) (h : isT s.enc "str" = false) : s.names = s.parts.flatMap Sm.names := by
  cases s with
  | num i => rfl
  | nm x => simp [Sm.enc, isT, tyN] at h
  | op w a b => simp [Sm.names, Sm.parts]
  | ite a b c => simp [Sm.names, Sm.parts]
theorem Sm.enc_parts (s : Sm) (h : isT s.enc "tuple" = true) : ∃ w, s.enc = .tuple (.str w :: s.parts.map Sm.enc) := by
  cases s with
  | num i => simp [Sm.enc, isT, tyN] at h
  | nm x => simp [Sm.enc, isT, tyN] at h
  | op w a b => exact ⟨w, rfl⟩
  | ite a b c => exact ⟨"if", rfl⟩
theorem Sm.parts_depth {s q : Sm} (h : q ∈ s.parts) : q.depth < s.depth := by
  cases s with
  | num i => cases h
  | nm x => cases h
  | op w a b =>
    simp only [Sm.parts, List.mem_cons, List.not_mem_nil, or_false] at h
    show q.depth < max a.depth b.depth + 1
    rcases h with rfl | rfl <;> omega
  | ite a b c =>
    simp only [Sm.parts, List.mem_cons, List.not_mem_nil, or_false] at h
    show q.depth < max a.depth (max b.depth c.depth) + 1
    rcases h with rfl | rfl | rfl <;> omega
end LC
namespace LC
open PySem PySem.Spec PyProof.Rows L2 Evl
theorem Acc.ret {K : Frag} {A H0 H Hs H' : Hp} {p : Addr} {out : List PyData} {d : PyData} {Q : VK} (k : Rt K H0 H d Q) (a : Acc K A Hs p out H') (xd : Ex H0 A) (fr : ∀ a, H0 a = none → H a ≠ none → A a = none) (ex : Ex H Hs) (hD : Hs p = none) (e : PyData.list out = d) : Q (.ref p) H' := by
  obtain ⟨Hd, g1, g2⟩ := a.done xd fr ex hD
  rw [e] at g2
  exact k _ H' Hd g1 g2
theorem take_flat {α β : Type} (f : α → List β) {l : List α} {i : Nat} {a : α} (h : l[i]? = some a) : (l.take (i + 1)).flatMap f = (l.take i).flatMap f ++ f a := by
  rw [List.take_add_one, h, Option.toList, List.flatMap_append]
  simp
theorem flat_take_len {α β : Type} (f : α → List β) (l : List α) (i : Nat) : ((l.take i).flatMap f).length ≤ (l.flatMap f).length := by
  have e := List.take_append_drop i l
  have : (l.flatMap f).length = ((l.take i).flatMap f).length + ((l.drop i).flatMap f).length := by
    rw [← List.length_append, ← List.flatMap_append, e]
  omega
end LC

namespace LC
open PySem PySem.Spec PyProof.Rows L2 Evl
theorem dt_strs {K : Frag} {H : Hp} : ∀ (l : List Str), DtAll K H (l.map V.str) (l.map PyData.str)
  | [] => .nil
  | x :: l => .cons (.str x) (dt_strs l)
theorem dt_ints {K : Frag} {H : Hp} : ∀ (l : List Int), DtAll K H (l.map V.int) (l.map PyData.int)
  | [] => .nil
  | x :: l => .cons (.int x) (dt_ints l)
/-- a new list of flat things is handed back -/
theorem flat_ret {K : Frag} {H0 H H' : Hp} {p : Addr} {xs : List V} {d : PyData} {ds : List PyData} {Q : VK} (k : Rt K H0 H d Q) (x : Ex H0 H) (ex : Ex H H') (hp : H p = none) (h : H' p = some (.lst xs)) (fl : DtAll K H0 xs ds) (e : PyData.list ds = d) : Q (.ref p) H' := by
  have hp0 : H0 p = none := fresh_back x hp
  refine k _ H' (upd H0 p (.lst xs)) ⟨ex, Ex.new hp0, fun a u q => ?_, fun a h0 h1 => ?_⟩ (e ▸ .lst upd_same (dpAll_ex (Ex.new hp0) _ _ fl))
  · by_cases z : a = p
    · subst z
      rw [upd_same] at q
      cases q
      exact h
    · rw [upd_ne z] at q
      exact ex a u (x a u q)
  · rw [upd_ne fun z => h1 (by rw [z]; exact hp)]
    exact h0
/-! rows by their places -/
def isSetD : PyData → Bool
  | .tuple (.str w :: _) => w == "set"
  | _ => false
def secondD : PyData → PyData
  | .tuple (_ :: x :: _) => x
  | d => d
theorem sets_data (src : Src) : ((src.map Rw.enc).filter isSetD).map secondD = (setsOf src).map PyData.str := by
  induction src with
  | nil => rfl
  | cons r src ih =>
    cases r with
    | set x s =>
      show (((Rw.set x s).enc :: src.map Rw.enc).filter isSetD).map secondD = ((Rw.set x s).sets ++ setsOf src).map PyData.str
      rw [List.filter_cons, if_pos (by rfl)]
      show PyData.str x :: _ = PyData.str x :: _
      rw [ih]
      rfl
    | shw s =>
      show (((Rw.shw s).enc :: src.map Rw.enc).filter isSetD).map secondD = ((Rw.shw s).sets ++ setsOf src).map PyData.str
      rw [List.filter_cons, if_neg (by show ¬ (("show" : Str) == "set") = true; decide +kernel)]
      exact ih
section
variable {K : Frag} {σ : L2.St} {H : Hp} {te : TE} {r : Rw}
/-- row[0] == "set" -/
theorem ev_isSet (h : EvD K te σ H r.enc) : Ev (tOp (rEqD K) (tOp (rIx K) te (tC (.int 0))) (tC (.str "set"))) σ H (.bl (isSetD r.enc)) := by
  cases r with
  | set x s => exact ev_is (ev_eq (evd_ixT (d := .str "set") h evd_int (atI_0 _ _)) evd_str (by decide +kernel) (by decide +kernel)) rfl
  | shw s => exact ev_is (ev_eq (evd_ixT (d := .str "show") h evd_int (atI_0 _ _)) evd_str (by decide +kernel) (by decide +kernel)) rfl
/-- row[-1] -/
theorem evd_last (h : EvD K te σ H r.enc) : EvD K (tOp (rIx K) te (tUn (rU fun i => .int (-i)) (tC (.int 1)))) σ H r.sum.enc := by
  have m1 : EvD K (tUn (rU fun i => .int (-i)) (tC (.int 1))) σ H (.int (-1)) := evd_i (ev_un (x := .int 1) ev_c ru_neg)
  cases r with
  | set x s => exact evd_ixT h m1 (atI_last [.str "set", .str x] s.enc)
  | shw s => exact evd_ixT h m1 (atI_last [.str "show"] s.enc)
/-- row[1] of a row that sets -/
theorem evd_setName {x : Str} {s : Sm} (h : EvD K te σ H (Rw.set x s).enc) : EvD K (tOp (rIx K) te (tC (.int 1))) σ H (.str x) := evd_ixT h evd_int (atI_1 _ _ _)
end
theorem isSetD_set (x : Str) (s : Sm) : isSetD (Rw.set x s).enc = true := rfl
theorem isSetD_shw (s : Sm) : isSetD (Rw.shw s).enc = false := by
  show (("show" : Str) == "set") = false
  decide +kernel
def addName (ms : List Str) (f : List Str) (x : Str) : List Str := if x ∈ ms ∨ x ∈ f then f else f ++ [x]
theorem addName_len (ms f : List Str) (x : Str) : (addName ms f x).length ≤ f.length + 1 := by
  unfold addName
  split <;> simp
theorem foldl_addName_len (ms : List Str) : ∀ (l f : List Str), (l.foldl (addName ms) f).length ≤ f.length + l.length
  | [], f => by simp
  | x :: l, f => by
    have := foldl_addName_len ms l (addName ms f x)
    have := addName_len ms f x
    simp only [List.foldl_cons, List.length_cons]
    omega
theorem readsGo_eq (acc : List Str × List Str) (r : Rw) : readsGo acc r = (r.sum.names.foldl (addName acc.2) acc.1, acc.2 ++ r.sets) := rfl
theorem reads_len (src : Src) (h : ∀ r ∈ src, r.good = true) : ∀ acc : List Str × List Str, (src.foldl readsGo acc).1.length ≤ acc.1.length + 729 * src.length := by
  induction src with
  | nil => intro acc; simp
  | cons r src ih =>
    intro acc
    have h1 := ih (fun q hq => h q (List.mem_cons_of_mem _ hq)) (readsGo acc r)
    have h2 := foldl_addName_len acc.2 r.sum.names acc.1
    have g := Rw.good_sum (h r (List.mem_cons_self ..))
    have h3 : r.sum.names.length ≤ 729 := Nat.le_trans (names_len _) (Nat.le_trans (Nat.pow_le_pow_right (by omega) g.2) (by decide))
    rw [List.foldl_cons, List.length_cons]
    rw [readsGo_eq] at h1 ⊢
    simp only at h1
    omega
theorem take_foldl {α β : Type} (f : β → α → β) {l : List α} {i : Nat} {a : α} (h : l[i]? = some a) (b : β) : (l.take (i + 1)).foldl f b = f ((l.take i).foldl f b) a := by
  rw [List.take_add_one, h, Option.toList, List.foldl_append] <;> rfl
theorem inD_strs (x : Str) (l : List Str) : inD (.str x) (l.map PyData.str) = decide (x ∈ l) := inD_str
theorem mine_len (src : Src) : ∀ acc : List Str × List Str, (src.foldl readsGo acc).2.length ≤ acc.2.length + src.length := by
  induction src with
  | nil => intro acc; simp
  | cons r src ih =>
    intro acc
    have h1 := ih (readsGo acc r)
    rw [List.foldl_cons, List.length_cons]
    rw [readsGo_eq] at h1 ⊢
    simp only [List.length_append] at h1
    have : r.sets.length ≤ 1 := by cases r <;> simp [Rw.sets]
    omega
end LC

namespace LC
open PySem PySem.Spec PyProof.Rows L2
/-! ### sets of ints and texts, walked: over HandS.Set's own, with both kinds of keys -/
def kOf (e : Int × Value) : Key := match e.2 with
  | .int k _ => .inl k
  | .str x _ => .inr x
  | _ => .inl 0
def GoodQ (w : World) (e : Int × Value) : Prop := (∃ k tk, e.2 = Value.int k tk ∧ e.1 = hashInt k) ∨ ∃ x tk, e.2 = Value.str x tk ∧ e.1 = hashStr w x
/-- the keys L stand in the set at a; it can be walked -/
def SetQ (w : World) (h : Heap) (a : Addr) (L : List Key) : Prop := ∃ o es ep t, h.get? a = some o ∧ o.ExactSet ∧ o.data = .set es ep t ∧ (∀ e ∈ es.toList, GoodQ w e) ∧ (es.toList.map kOf).Perm L ∧ L.Nodup ∧
  es.size < scanBound ∧ t.fits es.size = true ∧ Ris t.place.toList ∧ (w.params.followText "set-order" = true ∨ t.led = true)
open Classical in
noncomputable def addK (L : List Key) (k : Key) : List Key := if k ∈ L then L else k :: L
section
variable {P : Program} {w : World} {A : Around} {E : Value → Shared → Prop} {s : Shared} {a : Addr} {L : List Key} {k : Key} {u : Value}
theorem goodQ_elems {l : List (Int × Value)} (gq : ∀ e ∈ l, GoodQ w e) : ElemsOf (mixKind P w) l := fun e he => by
  rcases gq e he with ⟨k, tk, h1, h2⟩ | ⟨x, tk, h1, h2⟩
  · exact ⟨⟨.inl k, by rw [h1]; exact keyIs_int k tk, h2⟩, by rw [h1] <;> rfl⟩
  · exact ⟨⟨.inr x, by rw [h1]; exact keyIs_str x tk, h2⟩, by rw [h1] <;> rfl⟩
theorem goodQ_is {e : Int × Value} (gq : GoodQ w e) (k : Key) : (mixKind P w).is k e.2 = true ↔ kOf e = k := by
  unfold kOf
  rcases gq with ⟨j, tk, h1, _⟩ | ⟨x, tk, h1, _⟩
  · rw [h1]
    cases k with
    | inl i =>
      show ((j == i) = true) ↔ (Sum.inl j : Key) = Sum.inl i
      simp
    | inr y =>
      show (Value.isStrOf y (Value.int j tk) = true) ↔ (Sum.inl j : Key) = Sum.inr y
      simp [Value.isStrOf]
  · rw [h1]
    cases k with
    | inl i =>
      show (Value.isInt i (Value.str x tk) = true) ↔ (Sum.inr x : Key) = Sum.inl i
      simp [Value.isInt]
    | inr y =>
      show (Value.isStrOf y (Value.str x tk) = true) ↔ (Sum.inr x : Key) = Sum.inr y
      simp [Value.isStrOf]
theorem goodQ_mem {l : List (Int × Value)} (gq : ∀ e ∈ l, GoodQ w e) (k : Key) : k ∈ l.map kOf ↔ ∃ e ∈ l, (mixKind P w).is k e.2 = true := by
  rw [List.mem_map]
  exact ⟨fun ⟨e, he, q⟩ => ⟨e, he, (goodQ_is (gq e he) k).2 q⟩, fun ⟨e, he, q⟩ => ⟨e, he, (goodQ_is (gq e he) k).1 q⟩⟩
theorem setQ_tail {g : Bool → Sem Unit} (hg : ∀ (b : Bool) (s₁ : Shared) (Q' : Unit → Shared → Prop), Q' () s₁ → wpAny (model P w) A (g b) Q' E s₁)
    {o : Obj} {es : Array (Int × Value)} {ep : Nat} {t : SetTable} (ob : s.heap.get? a = some o) (oe : o.ExactSet) (od : o.data = .set es ep t)
    {xs : Array (Int × Value)} {t2 : SetTable} (gq : ∀ e ∈ xs.toList, GoodQ w e) (pm0 : (xs.toList.map kOf).Perm L) (nd : L.Nodup)
    (few : xs.size < scanBound) (fit : t2.fits xs.size = true) (ri : Ris t2.place.toList) (le : w.params.followText "set-order" = true ∨ t2.led = true) {wasDummy : Bool} {R : Option Bool → Shared → Prop}
    (hR : ∀ h', Heap.SameBut a s.heap h' → SetQ w h' a L → R (some true) { s with heap := h' }) :
    wpAny (model P w) A (do
        storeSet a xs t2
        if (!wasDummy && t2.tooFull) = true then do
            g (relayAll t2 xs (SetTable.grown xs.size)).2.2
            storeSet a (relayAll t2 xs (SetTable.grown xs.size)).1 (relayAll t2 xs (SetTable.grown xs.size)).2.1
            pure (some true)
          else pure (some true)) R E s := by
  refine wpAny_bind (wpAny_storeSet_of ob od ?_ (fits_of_scanBound few))
  have ob1 := store_at (es' := xs) (t' := t2) ob od
  have sm1 := Heap.SameBut.update s.heap a (Obj.putSet xs t2)
  split
  · have pm := relayAll_perm t2 xs (SetTable.grown xs.size)
    have f3 := relayAll_fits t2 xs (SetTable.grown xs.size)
    have r3 := relayAll_ris t2 xs (SetTable.grown xs.size)
    have l3 := relayAll_led t2 xs (SetTable.grown xs.size)
    generalize relayAll t2 xs (SetTable.grown xs.size) = Z at pm f3 r3 l3 ⊢
    obtain ⟨ys, t3, gave⟩ := Z
    dsimp only at pm f3 r3 l3 ⊢
    have sz : ys.size = xs.size := by rw [← Array.length_toList, pm.length_eq, Array.length_toList]
    have few2 : ys.size < scanBound := by rw [sz]; exact few
    refine wpAny_bind (hg _ _ _ (wpAny_bind (wpAny_storeSet_of ob1 rfl ?_ (fits_of_scanBound few2))))
    have ob2 := store_at (es' := ys) (t' := t3) ob1 rfl
    exact wpAny_pure (hR _ (sm1.trans (Heap.SameBut.update _ a _)) ⟨_, ys, _, t3, ob2, oe, rfl, fun e he => gq e (pm.mem_iff.mp he), (pm.map kOf).trans pm0, nd, few2, f3, r3, le.imp id fun z => by rw [l3]; exact z⟩)
  · exact wpAny_pure (hR _ sm1 ⟨_, xs, _, t2, ob1, oe, rfl, gq, pm0, nd, few, fit, ri, le⟩)
theorem kV_good {w : World} (r : RelV (kV k) u) : GoodQ w ((mixKind P w).hash k, u) ∧ kOf ((mixKind P w).hash k, u) = k ∧ u.scannable = true := by
  cases k with
  | inl i =>
    obtain ⟨t, rfl⟩ := r
    exact ⟨.inl ⟨i, t, rfl, rfl⟩, rfl, rfl⟩
  | inr x =>
    obtain ⟨t, rfl⟩ := r
    exact ⟨.inr ⟨x, t, rfl, rfl⟩, rfl, rfl⟩
theorem setQ_hashed {Q : Bool → Shared → Prop} (R : SetQ w s.heap a L) (rk : RelV (kV k) u) (room : L.length + 1 < scanBound) (hQ : ∀ h' b, Heap.SameBut a s.heap h' → SetQ w h' a (addK L k) → Q b { s with heap := h' }) :
    wpAny (model P w) A (setAddHashed a u ((mixKind P w).hash k)) Q E s := by
  obtain ⟨o, es, ep, t, ob, oe, od, gq, pm0, nd, few, fit, ri, le⟩ := R
  obtain ⟨gu, eu, su⟩ := kV_good (P := P) (w := w) rk
  have hkey : (mixKind P w).is k u = true := kV_is rk
  have els : ElemsOf (mixKind P w) es.toList := goodQ_elems gq
  unfold setAddHashed setAddHashedIn
  refine wpAny_holding (wpAny_bind (wpAny_setState_of ob od fit ?_))
  dsimp only
  rw [byScan_of su few els]
  simp only [↓reduceIte]
  unfold setAddByScan
  refine wpAny_bind (wpAny_bind (wpAny_rule (wpAny_bind (wpAny_setScan_of hkey ob od fit els ?_))))
  cases fi : List.findIdx? (fun e => (mixKind P w).is k e.2) es.toList with
  | some j =>
    dsimp only
    obtain ⟨hj, pj, _⟩ := List.findIdx?_eq_some_iff_getElem.mp fi
    have inL : k ∈ L := pm0.mem_iff.mp ((goodQ_mem (P := P) gq k).2 ⟨es.toList[j], List.getElem_mem hj, pj⟩)
    refine wpAny_pure (wpAny_pure ?_)
    have q := hQ s.heap false (Heap.SameBut.refl a s.heap) (by
      unfold addK
      rw [if_pos inL]
      exact ⟨o, es, ep, t, ob, oe, od, gq, pm0, nd, few, fit, ri, le⟩)
    exact q
  | none =>
    dsimp only
    have nin : k ∉ es.toList.map kOf := fun z => by
      obtain ⟨e, he, q⟩ := (goodQ_mem (P := P) gq k).1 z
      have c := List.findIdx?_eq_none_iff.mp fi e he
      rw [q] at c
      cases c
    have ninL : k ∉ L := fun z => nin (pm0.mem_iff.mpr z)
    have gw : ∀ (b : Bool) {s₁ : Shared} {Q' : Unit → Shared → Prop}, Q' () s₁ → wpAny (model P w) A (match b with | true => rule "set.scan.the-table-gave-way" | false => pure ()) Q' E s₁ := fun b s₁ Q' q => by
      cases b
      · exact wpAny_pure q
      · exact wpAny_rule q
    have pm := layNew_perm t es ((mixKind P w).hash k) u
    have f1 := layNew_fits t es ((mixKind P w).hash k) u
    have r1 := layNew_ris t es ((mixKind P w).hash k) u ri
    have l1 := layNew_led t es ((mixKind P w).hash k) u
    generalize layNew t es ((mixKind P w).hash k) u = Z at pm f1 r1 l1 ⊢
    obtain ⟨xs, t1, wasDummy, gave⟩ := Z
    dsimp only at pm f1 r1 l1 ⊢
    rw [Array.toList_push] at pm
    have pc : xs.toList.Perm (((mixKind P w).hash k, u) :: es.toList) := pm.trans (List.perm_append_singleton _ _)
    have pk : (xs.toList.map kOf).Perm (addK L k) := by
      unfold addK
      rw [if_neg ninL]
      have z := pc.map kOf
      rw [List.map_cons, eu] at z
      exact z.trans (pm0.cons k)
    have ndk : (addK L k).Nodup := by
      unfold addK
      rw [if_neg ninL]
      exact List.nodup_cons.mpr ⟨ninL, nd⟩
    have g1 : ∀ e ∈ xs.toList, GoodQ w e := fun e he => by
      rcases List.mem_cons.mp (pc.mem_iff.mp he) with z | z
      · rw [z]; exact gu
      · exact gq e z
    have few1 : xs.size < scanBound := by
      have z := pk.length_eq
      unfold addK at z
      rw [if_neg ninL, List.length_map, Array.length_toList, List.length_cons] at z
      omega
    have led1 : w.params.followText "set-order" = true ∨ t1.led = true := le.imp id fun z => by rw [l1]; exact z
    refine wpAny_bind (gw _ ?_)
    split
    · refine wpAny_bind ?_
      rw [hashByValue_scannable 8 su]
      refine wpAny_pure ?_
      refine setQ_tail (L := addK L k) ?_ ob oe od g1 pk ndk few1 ?_ ?_ ?_ ?_
      · intro b s₁ Q' q
        cases b
        · exact wpAny_pure q
        · exact wpAny_rule q
      · first | (split <;> first | exact f1 | exact SetTable.fits_plain_off f1) | exact f1
      · first | (split <;> exact r1) | exact r1
      · first | (split <;> exact led1) | exact led1
      · intro h' sb r
        dsimp only
        exact wpAny_pure (hQ h' _ sb r)
    · refine wpAny_bind (wpAny_pure ?_)
      simp only [↓reduceIte]
      refine setQ_tail (L := addK L k) ?_ ob oe od g1 pk ndk few1 f1 r1 led1 ?_
      · intro b s₁ Q' q
        cases b
        · exact wpAny_pure q
        · exact wpAny_rule q
      · intro h' sb r
        dsimp only
        exact wpAny_pure (hQ h' _ sb r)
end
end LC

namespace LC
open PySem PySem.Spec PyProof.Rows L2
abbrev newSet (w : World) : Obj := { cls := .type "set", dict := none, data := .set #[] 0 (.fresh 0 0 (!w.params.followText "set-order")) }
section
variable {P : Program} {w : World} {A : Around} {E : Value → Shared → Prop} {s : Shared}
theorem SetQ.keep {h h' : Heap} {a : Addr} {L : List Key} (R : SetQ w h a L) (k : ∀ o, h.get? a = some o → h'.get? a = some o) : SetQ w h' a L := by
  obtain ⟨o, es, ep, t, ob, r⟩ := R
  exact ⟨o, es, ep, t, k o ob, r⟩
theorem setQ_fresh {h : Heap} {a : Addr} (ob : h.get? a = some (newSet w)) : SetQ w h a [] := by
  refine ⟨_, #[], 0, _, ob, ⟨rfl, rfl, rfl⟩, rfl, fun e he => (by simp at he), List.Perm.nil, List.nodup_nil, by decide, by rfl, List.Pairwise.nil, ?_⟩
  show _ ∨ (!w.params.followText "set-order") = true
  cases w.params.followText "set-order"
  · exact .inr rfl
  · exact .inl rfl
theorem addK_len (L : List Key) (k : Key) : (addK L k).length ≤ L.length + 1 := by
  unfold addK
  split
  · omega
  · simp
theorem foldl_addK_len : ∀ (ks L : List Key), (ks.foldl addK L).length ≤ L.length + ks.length
  | [], L => by simp
  | k :: ks, L => by
    have h1 := foldl_addK_len ks (addK L k)
    have h2 := addK_len L k
    simp only [List.foldl_cons, List.length_cons]
    omega
/-- the loop of set.update over keys -/
theorem setQ_loop {I : Addr} {fp wr : List Addr} {G : Array GenState → Array GenState → Prop} {n : Nat} {Pv : Nat → Value → Prop} {St : Nat → Shared → Prop} {R : Result → Shared → Prop}
    (W : WalksS P w A.in1 I fp wr G n Pv St) (S : Addr) (nf : S ∉ fp) (ks : List Key) (en : n = ks.length) (few : ks.length + 1 < scanBound) (val : ∀ i v, Pv i v → ∃ k, ks[i]? = some k ∧ RelV (kV k) v) :
    ∀ (c i : Nat) (s : Shared), n - i = c → i ≤ n → St i s → SetQ w s.heap S ((ks.take i).foldl addK []) → (∀ s', Moved (S :: wr) G s s' → SetQ w s'.heap S (ks.foldl addK []) → R (.ok (.ret .none)) s') →
      codeAny (model P w) A (.builtin "set.update.loop" ⟨[.ref S, .ref I], []⟩) R s := by
  have nw : S ∉ wr := fun z => nf (W.sub _ z)
  have up : ∀ b ∈ wr, b ∈ S :: wr := fun b hb => List.mem_cons_of_mem _ hb
  intro c
  induction c with
  | zero =>
    intro i s hc hi st hS hR
    obtain rfl : i = n := by omega
    refine codeAny_builtin F.entry_set_update_loop ?_
    rw [Around.under_plainId F.plain_set_update_loop _]
    show wpAny _ A.in1 (pyNext (.ref I) >>= _) _ _ s
    refine wpAny_bind (W.done s _ _ st fun s' mv => ?_)
    show wpAny _ A.in1 (ret Value.none) _ _ s'
    refine wpAny_pure (hR s' (mv.mono up) (SetQ.keep ?_ fun o e => mv.heap S o nw e))
    rw [en, List.take_length] at hS
    exact hS
  | succ c ih =>
    intro i s hc hi st hS hR
    have lt : i < n := by omega
    refine codeAny_builtin F.entry_set_update_loop ?_
    rw [Around.under_plainId F.plain_set_update_loop _]
    show wpAny _ A.in1 (pyNext (.ref I) >>= _) _ _ s
    refine wpAny_bind (W.item i s _ _ lt st fun v s' pv st' mv => ?_)
    obtain ⟨k, hk, rk⟩ := val i v pv
    have hS' : SetQ w s'.heap S ((ks.take i).foldl addK []) := hS.keep fun o e => mv.heap S o nw e
    show wpAny _ A.in1 (holding [v] (setAdd S v) >>= _) _ _ s'
    refine wpAny_bind (wpAny_holding ?_)
    unfold setAdd
    refine wpAny_holding (wpAny_bind ((mixKind P w).pyHash (k := k) (kV_is rk) ?_))
    have ll := foldl_addK_len (ks.take i) []
    rw [List.length_take, List.length_nil] at ll
    refine setQ_hashed (s := { s' with toks := s'.toks + 1 }) hS' rk (by omega) fun h' b sb hS2 => ?_
    have e1 : (ks.take (i + 1)).foldl addK [] = addK ((ks.take i).foldl addK []) k := take_foldl addK hk []
    rw [← e1] at hS2
    refine wpAny_pure ⟨plainId_quiet F.plain_set_update_loop _, ih (i + 1) _ (by omega) lt (W.frame _ s' _ _ st' (Nat.le_succ _) fun b hb o e => ?_) hS2 fun s'' mv2 hS3 => ?_⟩
    · rw [sb.2 b fun z : b = S => nf (by rw [← z]; exact hb)]
      exact e
    · refine hR s'' (Moved.trans W.gtrans ((mv.mono up).then_heap (Nat.le_succ _) fun b o hb e => ?_) mv2) hS3
      rw [sb.2 b fun z : b = S => hb (by rw [z]; exact List.mem_cons_self)]
      exact e
/-- set(xs), xs a list of ints and texts -/
theorem setQ_of {l : Addr} {items : Array Value} (ks : List Key) {Q : Value → Shared → Prop} (hh : A.handled = none) (hl : s.heap.IsList l items) (rel : Vals (ks.map kV) items.toList) (few : ks.length + 1 < scanBound)
    (h : ∀ (h' : Heap) (tk : Nat), SetQ w h' s.heap.objs.size (ks.foldl addK []) → (∀ b o, s.heap.get? b = some o → h'.get? b = some o) → Q (.ref s.heap.objs.size) { s with heap := h', toks := tk }) :
    wpAny (model P w) A (call (.type "set") [.ref l]) Q E s := by
  have isz : items.size = ks.length := by
    have q : (ks.map kV).length = items.toList.length := rel.length
    rw [List.length_map] at q
    simpa using q.symm
  obtain ⟨c0, tl0, mro0⟩ := F.called_set.mro
  have made0 := F.called_set.made
  have sub0 := F.called_set.sub
  refine wpAny_call (codeAny_of_tree ?_)
  show wpAny _ _ (callAny (.type "set") _) _ _ _
  refine wpAny_pure ⟨Code.quiet_builtin _ (by decide +kernel), codeAny_builtin F.entry_type_call ?_⟩
  rw [Around.under_plain (weight_type_call_type "set" [.ref l] []) rfl]
  have not0 := F.called_set.notType
  have can0 := F.called_set.canCreate
  have call0 := F.typeCall_set_1 (.ref l)
  repeat (any_goals (first | assumption | wp_step))
  refine codeAny_mono (code_set_led1 (.ref l) (E := E) (Q₁ := fun obj s₁ => obj = .ref s.heap.objs.size ∧ s₁ = { s with heap := s.heap.push (newSet w) }) ⟨rfl, rfl⟩) fun r s₁ hr => ?_
  cases r with
  | error e => exact hr
  | ok fl =>
    cases fl with
    | ret obj =>
      obtain ⟨rfl, rfl⟩ := hr
      have ob : (s.heap.push (newSet w)).get? s.heap.objs.size = some (newSet w) := Heap.get?_push_size _ rfl
      have ty : Shared.TypeIs { s with heap := s.heap.push (newSet w) } (.ref s.heap.objs.size) "set" := ⟨_, ob, rfl⟩
      have li0 := F.called_set.init.lookup
      have bi0 := F.called_set.init.bind (.ref s.heap.objs.size)
      repeat (any_goals (first | assumption | wp_step))
      refine codeAny_mono (codeAny_call_builtin (R := wants (fun r s₂ => r = .none ∧ ∃ h' tk, s₂ = { s with heap := h', toks := tk } ∧ SetQ w h' s.heap.objs.size (ks.foldl addK []) ∧ ∀ b o, s.heap.get? b = some o → h'.get? b = some o) E)
        F.called_set.init.plain F.entry_set_init (check_set_init_1 ty ?_)) fun r₂ s₂ hr₂ => ?_
      · obtain ⟨ol, hol, hcl, nl, hdl⟩ := hl
        obtain ⟨ocls, odict, odata, oslots⟩ := ol
        simp only at hcl hdl
        subst hcl hdl
        have hol2 : (s.heap.push (newSet w)).get? l = some { cls := .type "list", dict := odict, data := .seq items nl, slots := oslots } := Heap.get?_push_of_some _ hol
        have f1 := F.sub_list_set
        have f2 := F.sub_list_frozenset
        have f3 : (Value.type "list" == Value.type "dict") = false := by decide
        have isl : (s.heap.push (newSet w)).IsList l items := ⟨_, hol2, rfl, nl, rfl⟩
        unfold Builtin.«set.__init__» noKeywords Builtin.Frozenset.updateFrom
        generalize hPI : pyIter = PI
        wp_walk
        subst hPI
        refine wpAny_pyIter_list isl (wpAny_bind (wpAny_runValue ?_))
        have ls : l < s.heap.objs.size := Heap.lt_size hol
        have h3 : A.in1.in1.in1.handled = none := by simp [hh]
        have ne1 : l ≠ (s.heap.push (newSet w)).objs.size := by
          rw [Heap.size_push]
          exact Nat.ne_of_lt (Nat.lt_succ_of_lt ls)
        have nf : s.heap.objs.size ∉ [(s.heap.push (newSet w)).objs.size, l] := by
          rw [Heap.size_push]
          simp only [List.mem_cons, List.not_mem_nil, or_false, not_or]
          exact ⟨Nat.ne_of_lt (Nat.lt_succ_self _), Nat.ne_of_gt ls⟩
        have val : ∀ (i : Nat) (v : Value), items[i]? = some v → ∃ k, ks[i]? = some k ∧ RelV (kV k) v := fun i v hv => by
          have q : items.toList[i]? = some v := by rw [Array.getElem?_toList]; exact hv
          cases hq : ks[i]? with
          | none =>
            have z := rel.none_of (i := i) (by rw [List.getElem?_map, hq] <;> rfl)
            rw [q] at z
            cases z
          | some k =>
            obtain ⟨u, hu, ru⟩ := rel.get (i := i) (x := kV k) (by rw [List.getElem?_map, hq] <;> rfl)
            rw [q] at hu
            cases hu
            exact ⟨k, rfl, ru⟩
        refine setQ_loop ((Walks.list h3 _ l ne1 items).toS) s.heap.objs.size nf ks isz few val (items.size - 0) 0 _ (by omega) (Nat.zero_le _) ⟨⟨_, Heap.get?_push_size _ rfl, rfl, rfl⟩, (isl.push _)⟩ (setQ_fresh (Heap.get?_push_of_some _ ob)) fun s' mv hS => ?_
        obtain ⟨h', g2, d2, tk2, os2⟩ := s'
        have eg : g2 = s.gens := mv.gens
        have ed : d2 = s.drawn := mv.drawn
        have eo : os2 = s.os := mv.os
        subst eg ed eo
        show wpAny _ _ _ _ _ _
        refine wpAny_pure ?_
        show wpAny _ _ (ret Value.none) _ _ _
        refine wpAny_pure ⟨rfl, h', tk2, rfl, hS, fun b o e => mv.heap b o ?_ (Heap.get?_push_of_some _ (Heap.get?_push_of_some _ e))⟩
        have lb := Heap.lt_size e
        simp only [List.mem_cons, List.not_mem_nil, or_false, not_or]
        refine ⟨Nat.ne_of_lt lb, ?_⟩
        rw [Heap.size_push]
        exact Nat.ne_of_lt (Nat.lt_succ_of_lt lb)
      · cases r₂ with
        | error e => exact hr₂
        | ok fl₂ =>
          cases fl₂ with
          | ret r =>
            obtain ⟨rfl, h', tk, rfl, hS, hk⟩ := hr₂
            repeat (any_goals (first | assumption | wp_step))
            exact h _ _ hS hk
          | _ => exact hr₂.elim
    | _ => exact hr.elim
/-- the members of a set of texts, of ints, in some order -/
theorem strs_of_keys : ∀ (l : List (Int × Value)) (xs : List Str), (∀ e ∈ l, GoodQ w e) → l.map kOf = xs.map Sum.inr → StrsAre (l.map (·.2)) xs
  | [], [], _, _ => .nil
  | [], _ :: _, _, h => by simp at h
  | _ :: _, [], _, h => by simp at h
  | e :: l, x :: xs, g, h => by
    simp only [List.map_cons, List.cons.injEq] at h
    have ih := strs_of_keys l xs (fun q hq => g q (List.mem_cons_of_mem _ hq)) h.2
    rcases g e (List.mem_cons_self ..) with ⟨k, tk, h1, _⟩ | ⟨y, tk, h1, _⟩
    · have z := h.1
      unfold kOf at z
      rw [h1] at z
      cases z
    · have z := h.1
      unfold kOf at z
      rw [h1] at z
      cases z
      rw [List.map_cons, h1]
      exact .cons x tk ih
theorem ints_of_keys : ∀ (l : List (Int × Value)) (xs : List Int), (∀ e ∈ l, GoodQ w e) → l.map kOf = xs.map Sum.inl → IntsAre (l.map (·.2)) xs
  | [], [], _, _ => .nil
  | [], _ :: _, _, h => by simp at h
  | _ :: _, [], _, h => by simp at h
  | e :: l, x :: xs, g, h => by
    simp only [List.map_cons, List.cons.injEq] at h
    have ih := ints_of_keys l xs (fun q hq => g q (List.mem_cons_of_mem _ hq)) h.2
    rcases g e (List.mem_cons_self ..) with ⟨k, tk, h1, _⟩ | ⟨y, tk, h1, _⟩
    · have z := h.1
      unfold kOf at z
      rw [h1] at z
      cases z
      rw [List.map_cons, h1]
      exact .cons x tk ih
    · have z := h.1
      unfold kOf at z
      rw [h1] at z
      cases z
end
end LC

namespace LC
open PySem PySem.Spec PyProof.Rows L2 Evl
/-! ### each once -/
def nub {α : Type} [DecidableEq α] : List α → List α
  | [] => []
  | x :: l => x :: (nub l).filter (fun y => decide (y ≠ x))
section
variable {α : Type} [DecidableEq α]
theorem mem_nub (x : α) : ∀ l : List α, x ∈ nub l ↔ x ∈ l
  | [] => Iff.rfl
  | y :: l => by
    have ih := mem_nub x l
    show x ∈ y :: (nub l).filter (fun z => decide (z ≠ y)) ↔ x ∈ y :: l
    rw [List.mem_cons, List.mem_cons, List.mem_filter, ih]
    simp only [ne_eq, decide_not, Bool.not_eq_true', decide_eq_false_iff_not]
    by_cases h : x = y
    · simp [h]
    · simp [h]
theorem nub_nodup : ∀ l : List α, (nub l).Nodup
  | [] => List.nodup_nil
  | y :: l => by
    refine List.nodup_cons.mpr ⟨fun z => ?_, (nub_nodup l).sublist List.filter_sublist⟩
    simp at z
theorem nub_len : ∀ l : List α, (nub l).length ≤ l.length
  | [] => Nat.le_refl _
  | y :: l => by
    have h1 := nub_len l
    have h2 := List.length_filter_le (fun z => decide (z ≠ y)) (nub l)
    show ((nub l).filter (fun z => decide (z ≠ y))).length + 1 ≤ l.length + 1
    omega
end
/-! ### the order of texts -/
def leS (x y : Str) : Bool := !ltCps y.cps.toList x.cps.toList
theorem lt_trans0 : ∀ a b c : List Nat, ltCps b a = false → ltCps c b = false → ltCps c a = false := by
  intro a
  induction a with
  | nil => intro b c h1 h2; cases c <;> simp_all [ltCps]
  | cons x a ih =>
    intro b c h1 h2
    cases b with
    | nil => simp [ltCps] at h1
    | cons y b =>
      cases c with
      | nil => simp [ltCps] at h2
      | cons z c =>
        simp only [ltCps, Bool.or_eq_false_iff, Bool.and_eq_false_iff, decide_eq_false_iff_not, beq_eq_false_iff_ne] at h1 h2 ⊢
        refine ⟨by omega, ?_⟩
        by_cases e : z = x
        · right
          have e1 : y = x := by omega
          have e2 : z = y := by omega
          rcases h1.2 with q | q
          · exact absurd e1 q
          · rcases h2.2 with q2 | q2
            · exact absurd e2 q2
            · exact ih b c q q2
        · exact .inl e
theorem lt_anti0 : ∀ a b : List Nat, ltCps b a = false → ltCps a b = false → a = b := by
  intro a
  induction a with
  | nil => intro b h1 h2; cases b <;> simp_all [ltCps]
  | cons x a ih =>
    intro b h1 h2
    cases b with
    | nil => simp [ltCps] at h1
    | cons y b =>
      simp only [ltCps, Bool.or_eq_false_iff, Bool.and_eq_false_iff, decide_eq_false_iff_not, beq_eq_false_iff_ne] at h1 h2
      have e : x = y := by omega
      subst e
      rw [ih b (h1.2.resolve_left (fun z => z rfl)) (h2.2.resolve_left fun z => z rfl)]
theorem lt_total0 : ∀ a b : List Nat, ltCps b a = false ∨ ltCps a b = false := by
  intro a
  induction a with
  | nil => intro b; left; cases b <;> simp [ltCps]
  | cons x a ih =>
    intro b
    cases b with
    | nil => right; simp [ltCps]
    | cons y b =>
      simp only [ltCps, Bool.or_eq_false_iff, Bool.and_eq_false_iff, decide_eq_false_iff_not, beq_eq_false_iff_ne]
      rcases ih b with q | q
      · by_cases e : y < x
        · exact .inr ⟨by omega, .inl (by omega)⟩
        · exact .inl ⟨e, .inr q⟩
      · by_cases e : x < y
        · exact .inl ⟨by omega, .inl (by omega)⟩
        · exact .inr ⟨e, .inr q⟩
end LC
namespace LC
open PySem PySem.Spec PyProof.Rows L2 Evl
theorem rising_pair : ∀ (l : List Str) (p : Str), risingS p l = true → (p :: l).Pairwise (fun a b => leS a b = true)
  | [], p, _ => List.pairwise_singleton _ _
  | x :: l, p, h => by
    have h : (!ltCps x.cps.toList p.cps.toList && risingS x l) = true := h
    rw [Bool.and_eq_true] at h
    have ih := rising_pair l x h.2
    refine List.pairwise_cons.mpr ⟨fun y hy => ?_, ih⟩
    rcases List.mem_cons.mp hy with rfl | hy
    · exact h.1
    · have h2 := (List.pairwise_cons.mp ih).1 y hy
      have e1 : ltCps x.cps.toList p.cps.toList = false := by simpa using h.1
      have e2 : ltCps y.cps.toList x.cps.toList = false := by simpa [leS] using h2
      show (!ltCps y.cps.toList p.cps.toList) = true
      rw [lt_trans0 _ _ _ e1 e2] <;> rfl
theorem sorted_pair {l : List Str} (h : sortedS l = true) : l.Pairwise (fun a b => leS a b = true) := by
  cases l with
  | nil => exact List.Pairwise.nil
  | cons x l => exact rising_pair l x h
/-- each once, rising -/
def sortU (xs : List Str) : List Str := (nub xs).mergeSort leS
def sortI (xs : List Int) : List Int := (nub xs).mergeSort fun a b => decide (a ≤ b)
theorem leS_anti {x y : Str} (h1 : leS x y = true) (h2 : leS y x = true) : x = y := by
  have e := lt_anti0 x.cps.toList y.cps.toList (by simpa [leS] using h1) (by simpa [leS] using h2)
  obtain ⟨⟨l1⟩⟩ := x
  obtain ⟨⟨l2⟩⟩ := y
  have e : l1 = l2 := e
  rw [e]
theorem sortU_eq {xs ys : List Str} (hn : ys.Nodup) (hm : ∀ x, x ∈ ys ↔ x ∈ xs) (hs : sortedS ys = true) : ys = sortU xs := by
  have pm : ys.Perm (nub xs) := (List.perm_ext_iff_of_nodup hn (nub_nodup xs)).mpr fun x => (hm x).trans (mem_nub x xs).symm
  refine (pm.trans (List.mergeSort_perm _ _).symm).eq_of_pairwise (fun x y _ _ h1 h2 => leS_anti h1 h2) (sorted_pair hs) (List.pairwise_mergeSort ?_ ?_ _)
  · intro a b c h1 h2
    show (!ltCps c.cps.toList a.cps.toList) = true
    rw [lt_trans0 a.cps.toList b.cps.toList c.cps.toList (by simpa [leS] using h1) (by simpa [leS] using h2)] <;> rfl
  · intro a b
    rcases lt_total0 a.cps.toList b.cps.toList with q | q <;> simp [leS, q]
theorem sortI_eq {xs ys : List Int} (hn : ys.Nodup) (hm : ∀ x, x ∈ ys ↔ x ∈ xs) (hs : ys.Pairwise (· ≤ ·)) : ys = sortI xs := by
  have pm : ys.Perm (nub xs) := (List.perm_ext_iff_of_nodup hn (nub_nodup xs)).mpr fun x => (hm x).trans (mem_nub x xs).symm
  refine (pm.trans (List.mergeSort_perm _ _).symm).eq_of_pairwise (le := fun a b => a ≤ b) (fun x y _ _ h1 h2 => Int.le_antisymm h1 h2) hs ?_
  have h := List.pairwise_mergeSort (le := fun a b : Int => decide (a ≤ b)) (by intro a b c h1 h2; simp at h1 h2 ⊢; omega) (by intro a b; simp; omega) (nub xs)
  exact h.imp fun z => by simpa using z
theorem mem_addK {x k : Key} {L : List Key} : x ∈ addK L k ↔ x ∈ L ∨ x = k := by
  unfold addK
  split
  · rename_i h
    exact ⟨.inl, fun z => z.elim id fun e => e ▸ h⟩
  · rw [List.mem_cons]
    exact Or.comm
theorem mem_foldK {x : Key} : ∀ (ks L : List Key), x ∈ ks.foldl addK L ↔ x ∈ L ∨ x ∈ ks
  | [], L => by simp
  | k :: ks, L => by
    rw [List.foldl_cons, mem_foldK ks, mem_addK, List.mem_cons, or_assoc]
/-- a set of keys, as an object -/
def SetQO (w : World) (a : Addr) (L : List Key) : HO := .ext fun h => SetQ w h a L
theorem setQO_new {P : Program} {w : World} {H : Hp} {h : Heap} {a : Addr} {L : List Key} (R : SetQ w h a L) : ObjOk P w H h a (SetQO w a L) := by
  have ⟨o, _, _, _, ho, _⟩ := R
  exact ⟨R, ⟨o, ho⟩, fun h1 h2 p k => SetQ.keep p k⟩
def rSetQ (K : Frag) (w : World) : List V → Hp → VK → Prop := fun xs H Q => ∃ (l : Addr) (ks : List Key), xs = [V.ref l] ∧ SqL K H l (ks.map kV) ∧ ks.length + 1 < scanBound ∧ ∀ a, H a = none → Q (.ref a) (upd H a (SetQO w a (ks.foldl addK [])))
def rSortQS (w : World) : List V → Hp → VK → Prop := fun vs H Q => ∃ (a : Addr) (L : List Key) (xs : List Str), vs = [V.ref a] ∧ H a = some (SetQO w a L) ∧ L.Nodup ∧ (∀ k, k ∈ L ↔ k ∈ xs.map Sum.inr) ∧ L.length < 64 ∧ ∀ p, H p = none → Q (.ref p) (upd H p (.lst ((sortU xs).map V.str)))
def rSortQI (w : World) : List V → Hp → VK → Prop := fun vs H Q => ∃ (a : Addr) (L : List Key) (xs : List Int), vs = [V.ref a] ∧ H a = some (SetQO w a L) ∧ L.Nodup ∧ (∀ k, k ∈ L ↔ k ∈ xs.map Sum.inl) ∧ L.length < 64 ∧ ∀ p, H p = none → Q (.ref p) (upd H p (.lst ((sortI xs).map V.int)))
theorem all_inr : ∀ {L : List Key} {xs : List Str}, (∀ k ∈ L, k ∈ xs.map Sum.inr) → ∃ ys : List Str, L = ys.map Sum.inr ∧ ∀ y ∈ ys, y ∈ xs
  | [], _, _ => ⟨[], rfl, fun _ h => by cases h⟩
  | k :: L, xs, h => by
    obtain ⟨ys, e, hs⟩ := all_inr (L := L) (xs := xs) fun q hq => h q (List.mem_cons_of_mem _ hq)
    obtain ⟨y, hy, rfl⟩ := List.mem_map.mp (h k (List.mem_cons_self ..))
    exact ⟨y :: ys, by rw [e] <;> rfl, fun z hz => by
      rcases List.mem_cons.mp hz with rfl | hz
      · exact hy
      · exact hs z hz⟩
theorem all_inl : ∀ {L : List Key} {xs : List Int}, (∀ k ∈ L, k ∈ xs.map Sum.inl) → ∃ ys : List Int, L = ys.map Sum.inl ∧ ∀ y ∈ ys, y ∈ xs
  | [], _, _ => ⟨[], rfl, fun _ h => by cases h⟩
  | k :: L, xs, h => by
    obtain ⟨ys, e, hs⟩ := all_inl (L := L) (xs := xs) fun q hq => h q (List.mem_cons_of_mem _ hq)
    obtain ⟨y, hy, rfl⟩ := List.mem_map.mp (h k (List.mem_cons_self ..))
    exact ⟨y :: ys, by rw [e] <;> rfl, fun z hz => by
      rcases List.mem_cons.mp hz with rfl | hz
      · exact hy
      · exact hs z hz⟩
theorem nodup_map' {α β : Type} (f : α → β) : ∀ {l : List α}, (l.map f).Nodup → l.Nodup
  | [], _ => List.nodup_nil
  | x :: l, h => by
    rw [List.map_cons, List.nodup_cons] at h
    exact List.nodup_cons.mpr ⟨fun z => h.1 (List.mem_map.mpr ⟨x, z, rfl⟩), nodup_map' f h.2⟩
theorem strs_perm {us vs : List Value} {xs : List Str} (p : vs.Perm us) (h : StrsAre us xs) : ∃ ys, StrsAre vs ys ∧ ys.Perm xs := by
  induction p generalizing xs with
  | nil =>
    cases h
    exact ⟨[], .nil, List.Perm.nil⟩
  | cons x _ ih =>
    cases h with
    | cons y t h =>
      obtain ⟨ys, h1, h2⟩ := ih h
      exact ⟨y :: ys, .cons y t h1, h2.cons y⟩
  | swap x y l =>
    cases h with
    | cons a t h =>
      cases h with
      | cons b u h => exact ⟨_, .cons b u (.cons a t h), List.Perm.swap _ _ _⟩
  | trans p1 p2 ih1 ih2 =>
    obtain ⟨ys, h1, h2⟩ := ih2 h
    obtain ⟨zs, h3, h4⟩ := ih1 h1
    exact ⟨zs, h3, h4.trans h2⟩
theorem ints_perm {us vs : List Value} {xs : List Int} (p : vs.Perm us) (h : IntsAre us xs) : ∃ ys, IntsAre vs ys ∧ ys.Perm xs := by
  induction p generalizing xs with
  | nil =>
    cases h
    exact ⟨[], .nil, List.Perm.nil⟩
  | cons x _ ih =>
    cases h with
    | cons y t h =>
      obtain ⟨ys, h1, h2⟩ := ih h
      exact ⟨y :: ys, .cons y t h1, h2.cons y⟩
  | swap x y l =>
    cases h with
    | cons a t h =>
      cases h with
      | cons b u h => exact ⟨_, .cons b u (.cons a t h), List.Perm.swap _ _ _⟩
  | trans p1 p2 ih1 ih2 =>
    obtain ⟨ys, h1, h2⟩ := ih2 h
    obtain ⟨zs, h3, h4⟩ := ih1 h1
    exact ⟨zs, h3, h4.trans h2⟩
theorem strs_vals {K : Frag} {H : Hp} : ∀ {vs : List V} {xs : List Str}, DtAll K H vs (xs.map PyData.str) → vs = xs.map V.str
  | _, [], h => by cases h; rfl
  | _, x :: xs, h => by
    cases h with
    | cons h1 h2 =>
      rw [dp_str h1, strs_vals h2]
      rfl
theorem ints_vals {K : Frag} {H : Hp} : ∀ {vs : List V} {xs : List Int}, DtAll K H vs (xs.map PyData.int) → vs = xs.map V.int
  | _, [], h => by cases h; rfl
  | _, x :: xs, h => by
    cases h with
    | cons h1 h2 =>
      rw [dp_int h1, ints_vals h2]
      rfl
section
variable {X : Cx}
theorem crSet (hc : X.calm = true) : CallR X (.type "set") (rSetQ X.K X.w) := by
  intro pins s σ H xs us Q I r h
  obtain ⟨l, ks, rfl, hl, few, q⟩ := h
  rw [Vals.ref1 r]
  obtain ⟨its, rv, pl, hz⟩ := I.list hl
  have hn : H s.heap.objs.size = none := I.hok.fresh (Nat.le_refl _)
  refine setQ_of (P := X.prog) (w := X.w) ks (I.ok.hd hc) pl.isList (by simpa using rv) few fun h' tk R k => ?_
  exact ⟨.ref s.heap.objs.size, upd H s.heap.objs.size (SetQO X.w s.heap.objs.size _), I.laid (t' := tk) k (Nat.le_refl _) (setQO_new R), rfl, q _ hn⟩
theorem crSortS (hc : X.calm = true) : CallR X (.builtin "sorted") (rSortQS X.w) := by
  intro pins s σ H vs us Q I r h
  obtain ⟨a, L, xs, rfl, ha, nd, hm, h64, q⟩ := h
  rw [Vals.ref1 r]
  obtain ⟨o, es, ep, t, ob, oe, od, gq, pm0, nd0, few, fit, ri, le⟩ := (show SetQ X.w s.heap a L from (I.hok a _ ha).1)
  obtain ⟨zs, ez, hz⟩ := all_inr (L := es.toList.map kOf) (xs := xs) fun k hk => (hm k).mp (pm0.mem_iff.mp hk)
  refine Calls.call_function_entry kind_sorted plain_sorted entry_sorted (args_sorted1 _) ?_
  unfold Builtin.«sorted»
  refine wpAny_bind (m := checkCount "sorted" 1 1 _) (wpAny_pure ?after)
  case after =>
  refine wpAny_bind (collect_set (A := X.A.in1) (I.ok.hd hc) ⟨o, ob, oe.1, od⟩ fit few ri le fun s1 vs k1 sz g1 o1 pm => ?_)
  have hS0 : StrsAre (es.toList.map (·.2)) zs := strs_of_keys _ _ gq ez
  have lenE : es.toList.length < 64 := by
    have z := pm0.length_eq
    rw [List.length_map] at z
    omega
  have lenV : vs.length < 64 := by rw [pm.length_eq, List.length_map]; exact lenE
  obtain ⟨zs2, hS, pz⟩ : ∃ zs2, StrsAre vs zs2 ∧ zs2.Perm zs := strs_perm pm hS0
  refine wpAny_bind (wpAny_newList ?_ (by rw [sizeLine_eq]; omega))
  have obL : (s1.heap.push (seqObj "list" vs.toArray 0)).get? s1.heap.objs.size = some (seqObj "list" vs.toArray 0) := Heap.get?_push_size _ rfl
  refine wpAny_bind (wpAny_holding (wpAny_call_entry slot_list_sort ⟨_, obL, rfl⟩ entry_list_sort (list_sort_treeK strKind_oneLt obL hS.keysOf (fun v₁ v₂ rest e => keyKind_strs (by rw [← e]; exact hS)) lenV fun st' hp hs => ⟨_, rfl, ?_⟩) (args_list_sort _)))
  obtain ⟨ys, y1, y2, y3⟩ := sorted_out_str hS hp hs
  obtain ⟨c, hc2⟩ := sortedHeap_at (vs := vs) (out := (arrOf st').map (·.2)) obL
  have ndz : zs.Nodup := by
    have z : (es.toList.map kOf).Nodup := pm0.nodup_iff.mpr nd
    rw [ez] at z
    exact nodup_map' _ z
  have ey : ys = sortU xs := by
    refine sortU_eq ((y2.trans pz).nodup_iff.mpr ndz) (fun x => ?_) y3
    rw [(y2.trans pz).mem_iff]
    refine ⟨hz x, fun hx => ?_⟩
    have z : (Sum.inr x : Key) ∈ es.toList.map kOf := pm0.mem_iff.mpr ((hm _).mpr (List.mem_map.mpr ⟨x, hx, rfl⟩))
    rw [ez] at z
    obtain ⟨x', hx', e⟩ := List.mem_map.mp z
    cases e
    exact hx'
  have ll : (ys.map V.str).length ≤ sizeLine := by
    rw [List.length_map, (y2.trans pz).length_eq, ← List.length_map (f := (Sum.inr : Str → Key)), ← ez, List.length_map, sizeLine_eq]
    omega
  have hn : H s1.heap.objs.size = none := I.hok.fresh sz
  have kp : ∀ b u, s.heap.get? b = some u → (sortedHeap (s1.heap.push (seqObj "list" vs.toArray 0)) s1.heap.objs.size vs ((arrOf st').map (·.2))).get? b = some u := fun b u e => by
    have q := k1 b u e
    have lt := Heap.lt_size q
    rw [sortedHeap_old (Nat.ne_of_lt lt) (by rw [size_push']; exact Nat.lt_succ_of_lt lt)]
    exact Heap.get?_push_of_some _ q
  have ob2 : ObjOk X.prog X.w (upd H s1.heap.objs.size (.lst (ys.map V.str))) (sortedHeap (s1.heap.push (seqObj "list" vs.toArray 0)) s1.heap.objs.size vs ((arrOf st').map (·.2))) s1.heap.objs.size (.lst (ys.map V.str)) :=
    ⟨ll, ((arrOf st').map (·.2)).toList, c, vals_of_strs y1, by rw [Array.toArray_toList]; exact hc2⟩
  obtain ⟨h1, gg, dd, tt, oo⟩ := s1
  have eo : oo = s.os := o1
  have eg : gg = s.gens := g1
  subst eo
  subst eg
  have J : Inv X pins σ (upd H h1.objs.size (.lst (ys.map V.str))) { s with heap := sortedHeap (h1.push (seqObj "list" vs.toArray 0)) h1.objs.size vs ((arrOf st').map (·.2)), gens := s.gens, drawn := dd, toks := tt } :=
    I.call (ch := []) (Un.laid kp sz hn) (I.hok.laid kp sz ob2) I.bare (fun _ z => nomatch z)
  refine wpAny_pure ⟨_, rfl, ?_⟩
  rw [ey] at J
  exact ⟨.ref h1.objs.size, _, J, rfl, q _ hn⟩
theorem crSortI (hc : X.calm = true) : CallR X (.builtin "sorted") (rSortQI X.w) := by
  intro pins s σ H vs us Q I r h
  obtain ⟨a, L, xs, rfl, ha, nd, hm, h64, q⟩ := h
  rw [Vals.ref1 r]
  obtain ⟨o, es, ep, t, ob, oe, od, gq, pm0, nd0, few, fit, ri, le⟩ := (show SetQ X.w s.heap a L from (I.hok a _ ha).1)
  obtain ⟨zs, ez, hz⟩ := all_inl (L := es.toList.map kOf) (xs := xs) fun k hk => (hm k).mp (pm0.mem_iff.mp hk)
  refine Calls.call_function_entry kind_sorted plain_sorted entry_sorted (args_sorted1 _) ?_
  unfold Builtin.«sorted»
  refine wpAny_bind (m := checkCount "sorted" 1 1 _) (wpAny_pure ?after)
  case after =>
  refine wpAny_bind (collect_set (A := X.A.in1) (I.ok.hd hc) ⟨o, ob, oe.1, od⟩ fit few ri le fun s1 vs k1 sz g1 o1 pm => ?_)
  have hS0 : IntsAre (es.toList.map (·.2)) zs := ints_of_keys _ _ gq ez
  have lenE : es.toList.length < 64 := by
    have z := pm0.length_eq
    rw [List.length_map] at z
    omega
  have lenV : vs.length < 64 := by rw [pm.length_eq, List.length_map]; exact lenE
  obtain ⟨zs2, hS, pz⟩ : ∃ zs2, IntsAre vs zs2 ∧ zs2.Perm zs := ints_perm pm hS0
  refine wpAny_bind (wpAny_newList ?_ (by rw [sizeLine_eq]; omega))
  have obL : (s1.heap.push (seqObj "list" vs.toArray 0)).get? s1.heap.objs.size = some (seqObj "list" vs.toArray 0) := Heap.get?_push_size _ rfl
  refine wpAny_bind (wpAny_holding (wpAny_call_entry slot_list_sort ⟨_, obL, rfl⟩ entry_list_sort (list_sort_tree obL hS lenV fun out ys y1 y2 y3 => ⟨_, rfl, ?_⟩) (args_list_sort _)))
  obtain ⟨c, hc2⟩ := sortedHeap_at (vs := vs) (out := out) obL
  have ndz : zs.Nodup := by
    have z : (es.toList.map kOf).Nodup := pm0.nodup_iff.mpr nd
    rw [ez] at z
    exact nodup_map' _ z
  have ey : ys = sortI xs := by
    refine sortI_eq ((y2.trans pz).nodup_iff.mpr ndz) (fun x => ?_) y3
    rw [(y2.trans pz).mem_iff]
    refine ⟨hz x, fun hx => ?_⟩
    have z : (Sum.inl x : Key) ∈ es.toList.map kOf := pm0.mem_iff.mpr ((hm _).mpr (List.mem_map.mpr ⟨x, hx, rfl⟩))
    rw [ez] at z
    obtain ⟨x', hx', e⟩ := List.mem_map.mp z
    cases e
    exact hx'
  have ll : (ys.map V.int).length ≤ sizeLine := by
    rw [List.length_map, (y2.trans pz).length_eq, ← List.length_map (f := (Sum.inl : Int → Key)), ← ez, List.length_map, sizeLine_eq]
    omega
  have hn : H s1.heap.objs.size = none := I.hok.fresh sz
  have kp : ∀ b u, s.heap.get? b = some u → (sortedHeap (s1.heap.push (seqObj "list" vs.toArray 0)) s1.heap.objs.size vs out).get? b = some u := fun b u e => by
    have q := k1 b u e
    have lt := Heap.lt_size q
    rw [sortedHeap_old (Nat.ne_of_lt lt) (by rw [size_push']; exact Nat.lt_succ_of_lt lt)]
    exact Heap.get?_push_of_some _ q
  have ob2 : ObjOk X.prog X.w (upd H s1.heap.objs.size (.lst (ys.map V.int))) (sortedHeap (s1.heap.push (seqObj "list" vs.toArray 0)) s1.heap.objs.size vs out) s1.heap.objs.size (.lst (ys.map V.int)) :=
    ⟨ll, out.toList, c, vals_of_ints y1, by rw [Array.toArray_toList]; exact hc2⟩
  obtain ⟨h1, gg, dd, tt, oo⟩ := s1
  have eo : oo = s.os := o1
  have eg : gg = s.gens := g1
  subst eo
  subst eg
  have J : Inv X pins σ (upd H h1.objs.size (.lst (ys.map V.int))) { s with heap := sortedHeap (h1.push (seqObj "list" vs.toArray 0)) h1.objs.size vs out, gens := s.gens, drawn := dd, toks := tt } :=
    I.call (ch := []) (Un.laid kp sz hn) (I.hok.laid kp sz ob2) I.bare (fun _ z => nomatch z)
  refine wpAny_pure ⟨_, rfl, ?_⟩
  rw [ey] at J
  exact ⟨.ref h1.objs.size, _, J, rfl, q _ hn⟩
end
end LC
namespace LC
open PySem PySem.Spec PyProof.Rows L2 Evl
section
variable {X : Cx} {K : Frag} {w : World}
theorem kSet (h : X.K = K) (hw : X.w = w) (hc : X.calm = true) : CallR X (.type "set") (rSetQ K w) := by
  subst h hw
  exact crSet hc
def rSortU (w : World) : List V → Hp → VK → Prop := fun vs H Q => rSortQS w vs H Q ∨ rSortQI w vs H Q
theorem kSort (hw : X.w = w) (hc : X.calm = true) : CallR X (.builtin "sorted") (rSortU w) := by
  subst hw
  exact CallR.or (crSortS hc) (crSortI hc)
end
section
variable {K : Frag} {w : World} {σ : L2.St} {H : Hp} {te : TE}
theorem foldK_nodup : ∀ (ks L : List Key), L.Nodup → (ks.foldl addK L).Nodup
  | [], L, h => h
  | k :: ks, L, h => by
    refine foldK_nodup ks (addK L k) ?_
    unfold addK
    split
    · exact h
    · rename_i n
      exact List.nodup_cons.mpr ⟨n, h⟩
/-- sorted(set(xs)), xs a list of texts; of ints -/
theorem evd_sortS {xs : List Str} (h : EvD K te σ H (.list (xs.map PyData.str))) (hl : xs.length < 60) : EvD K (tCB (rSortU w) (tCons (tCB (rSetQ K w) (tCons te tNil)) tNil)) σ H (.list ((sortU xs).map PyData.str)) := fun H1 e Q q =>
  h H1 e _ fun v H2 A g hd => by
    obtain ⟨a, vs, rfl, hs, hall⟩ := dp_lst hd
    have ev : vs = (xs.map (Sum.inr : Str → Key)).map kV := by
      rw [List.map_map]
      exact strs_vals hall
    refine ⟨a, xs.map Sum.inr, rfl, sq_of (by rw [← ev]; exact g.d2 _ _ hs), by rw [List.length_map]; unfold scanBound; omega, fun b hb => ?_⟩
    have ll := foldl_addK_len (xs.map (Sum.inr : Str → Key)) []
    rw [List.length_map, List.length_nil] at ll
    refine .inl ⟨b, _, xs, rfl, upd_same, foldK_nodup _ [] List.nodup_nil, fun k => by rw [mem_foldK]; simp, by omega, fun p hp => ?_⟩
    have hp2 : H2 p = none := fresh_back (Ex.new hb) hp
    have npb : p ≠ b := fun z => by rw [z, upd_same] at hp; cases hp
    have g2 : Gr H H1 (upd (upd H2 b (SetQO w b ((xs.map (Sum.inr : Str → Key)).foldl addK []))) p (.lst ((sortU xs).map V.str))) (upd A p (.lst ((sortU xs).map V.str))) := (g.more (Ex.new hb)).new _ hp
    exact q _ _ _ g2 (.lst upd_same (dt_strs _))
theorem evd_sortI {xs : List Int} (h : EvD K te σ H (.list (xs.map PyData.int))) (hl : xs.length < 60) : EvD K (tCB (rSortU w) (tCons (tCB (rSetQ K w) (tCons te tNil)) tNil)) σ H (.list ((sortI xs).map PyData.int)) := fun H1 e Q q =>
  h H1 e _ fun v H2 A g hd => by
    obtain ⟨a, vs, rfl, hs, hall⟩ := dp_lst hd
    have ev : vs = (xs.map (Sum.inl : Int → Key)).map kV := by
      rw [List.map_map]
      exact ints_vals hall
    refine ⟨a, xs.map Sum.inl, rfl, sq_of (by rw [← ev]; exact g.d2 _ _ hs), by rw [List.length_map]; unfold scanBound; omega, fun b hb => ?_⟩
    have ll := foldl_addK_len (xs.map (Sum.inl : Int → Key)) []
    rw [List.length_map, List.length_nil] at ll
    refine .inr ⟨b, _, xs, rfl, upd_same, foldK_nodup _ [] List.nodup_nil, fun k => by rw [mem_foldK]; simp, by omega, fun p hp => ?_⟩
    have g2 : Gr H H1 (upd (upd H2 b (SetQO w b ((xs.map (Sum.inl : Int → Key)).foldl addK []))) p (.lst ((sortI xs).map V.int))) (upd A p (.lst ((sortI xs).map V.int))) := (g.more (Ex.new hb)).new _ hp
    exact q _ _ _ g2 (.lst upd_same (dt_ints _))
end
end LC

namespace LC
open PySem PySem.Spec PyProof.Rows L2 Evl
/-! ### defs that raise -/
def veB : List Value := [.type "ValueError", .type "Exception", .type "BaseException", .type "object"]
structure ExcF (K : Frag) (mg : Str → Option Value) (x : Str) (c : Addr) : Prop where
  q : PySem.W.excIn K c veB "ValueError.__new__" = true
  g : mg x = some (.ref c)
  k : PySem.W.keepIn K (.ref c) = true
  b : PySem.W.subIn K (.ref c) (.type "BaseException") = some true
  t : PySem.W.typeIn K (.ref c) = some (.type "type")
section
variable {P : Program} {w : World} {K : Frag} {mg : Str → Option Value} {base : Heap} {x q : Str} {st : Stmt} {f : Addr} {fd : FuncData} {N ps : List Str} {k : Nat} {sp : Sp}
theorem has_x (F : FnP K x q st f fd) (g : mg x = some (.ref f)) (b : Binds K fd ps []) (S : FnScope N ps (defScope st)) (len : ∀ vs H Q E, sp vs H Q E → vs.length = ps.length)
    (hbody : ∀ (cdv : Value) (A : Around) (outer : List Env) (s : Shared) (H : Hp) (vs : List V) (Q : VK) (E : XK), Room k (A.deeper (envOfC q (defScope st) s.heap.objs.size f cdv)) → sp vs H Q E →
      ∃ t, PSs (cxOf (L2.CX P w) P w K mg base N q (defScope st) f cdv A outer s H E) (defBody st) t ∧ t { nx := fun _ H' => Q .non H', rt := Q } (start N vs) H) : Has P w K mg base (L2.CX P w) (k + 1) x ps sp :=
  ⟨f, fd, F.ok S len hbody, b, F.kp, g⟩
theorem has_p (F : FnP K x q st f fd) (g : mg x = some (.ref f)) (b : Binds K fd ps []) (S : FnScope N ps (defScope st)) (len : ∀ vs H Q E, sp vs H Q E → vs.length = ps.length)
    (hbody : ∀ (cdv : Value) (A : Around) (outer : List Env) (s : Shared) (H : Hp) (vs : List V) (Q : VK) (E : XK), Room k (A.deeper (envOfC q (defScope st) s.heap.objs.size f cdv)) → sp vs H Q E →
      ∃ t, PSs (cxOf CX0 P w K mg base N q (defScope st) f cdv A outer s H E).nox (defBody st) t ∧ t { nx := fun _ H' => Q .non H', rt := Q } (start N vs) H) : Has P w K mg base CX0 (k + 1) x ps sp :=
  ⟨f, fd, F.ok S len (fun cdv A outer s H vs Q E hr h => by
    obtain ⟨t, ht, r⟩ := hbody cdv A outer s H vs Q E hr h
    exact ⟨t, PSs.nox ht, r⟩), b, F.kp, g⟩
end
/-- a promise over data that may be refused with the class at cB -/
def spDX (K : Frag) (cB : Addr) (F : List PyData → Option PyData → Prop) : Sp := fun vs H Q E => ∃ ds o H0, Ex H0 H ∧ DtAll K H0 vs ds ∧ F ds o ∧ (∀ d, o = some d → Rt K H0 H d Q) ∧ (o = none → ∀ H2, Ex H H2 → E (.ref cB) none H2)
def F_look (ds : List PyData) (o : Option PyData) : Prop := ∃ d, ds = [d] ∧ okD d = true ∧ o = if isSource d then some .none else none
/-! ### what is a source is one by its tree -/
theorem isSum_dec : ∀ (n : Nat) (d : PyData), isSum n d = true → ∃ s : Sm, d = s.enc ∧ s.good = true ∧ s.depth ≤ n := by
  intro n
  induction n with
  | zero =>
    intro d h
    cases d with
    | str s => exact ⟨.nm s, rfl, by unfold isSum at h; exact h, Nat.zero_le _⟩
    | int i => exact ⟨.num i, rfl, by unfold isSum isWithin at h; exact h, Nat.zero_le _⟩
    | tuple ds => simp [isSum] at h
    | _ => simp [isSum, isWithin] at h
  | succ n ih =>
    intro d h
    cases d with
    | str s => exact ⟨.nm s, rfl, by unfold isSum at h; exact h, Nat.zero_le _⟩
    | int i => exact ⟨.num i, rfl, by unfold isSum isWithin at h; exact h, Nat.zero_le _⟩
    | tuple ds =>
      match ds with
      | .str w :: r =>
        have h : (sumHead w (r.length + 1) && r.all (isSum n)) = true := h
        rw [Bool.and_eq_true] at h
        obtain ⟨h1, h2⟩ := h
        unfold sumHead at h1
        rw [Bool.or_eq_true, Bool.and_eq_true, Bool.and_eq_true] at h1
        rcases h1 with ⟨hw, hl⟩ | ⟨hw, hl⟩
        · match r with
          | [a, b] =>
            simp only [List.all_cons, List.all_nil, Bool.and_true, Bool.and_eq_true] at h2
            obtain ⟨sa, rfl, ga, da⟩ := ih a h2.1
            obtain ⟨sb, rfl, gb, db⟩ := ih b h2.2
            refine ⟨.op w sa sb, rfl, ?_, ?_⟩
            · show (decide (w ∈ wordsS) && (sa.good && sb.good)) = true
              rw [hw, ga, gb] <;> rfl
            · show max sa.depth sb.depth + 1 ≤ n + 1
              omega
          | [] => simp at hl
          | [_] => simp at hl
          | _ :: _ :: _ :: _ => simp at hl <;> omega
        · have ew : w = "if" := of_decide_eq_true hw
          subst ew
          match r with
          | [a, b, c] =>
            simp only [List.all_cons, List.all_nil, Bool.and_true, Bool.and_eq_true] at h2
            obtain ⟨sa, rfl, ga, da⟩ := ih a h2.1
            obtain ⟨sb, rfl, gb, db⟩ := ih b h2.2.1
            obtain ⟨sc, rfl, gc, dc⟩ := ih c h2.2.2
            refine ⟨.ite sa sb sc, rfl, ?_, ?_⟩
            · show (sa.good && (sb.good && sc.good)) = true
              rw [ga, gb, gc] <;> rfl
            · show max sa.depth (max sb.depth sc.depth) + 1 ≤ n + 1
              omega
          | [] => simp at hl
          | [_] => simp at hl
          | [_, _] => simp at hl
          | _ :: _ :: _ :: _ :: _ => simp at hl <;> omega
      | [] => simp [isSum] at h
      | .none :: _ => simp [isSum] at h
      | .bool _ :: _ => simp [isSum] at h
      | .int _ :: _ => simp [isSum] at h
      | .list _ :: _ => simp [isSum] at h
      | .tuple _ :: _ => simp [isSum] at h
      | .dict _ :: _ => simp [isSum] at h
    | _ => simp [isSum, isWithin] at h
theorem isRow_dec (d : PyData) (h : isRow d = true) : ∃ r : Rw, d = r.enc ∧ r.good = true := by
  unfold isRow at h
  split at h
  · rename_i w a
    rw [Bool.and_eq_true] at h
    have ew : w = "show" := of_decide_eq_true h.1
    subst ew
    obtain ⟨s, rfl, g, dp⟩ := isSum_dec 6 a h.2
    refine ⟨.shw s, rfl, ?_⟩
    show (s.good && decide (s.depth ≤ 6)) = true
    rw [g, decide_eq_true dp] <;> rfl
  · rename_i w y a
    rw [Bool.and_eq_true, Bool.and_eq_true] at h
    have ew : w = "set" := of_decide_eq_true h.1
    subst ew
    obtain ⟨s, rfl, g, dp⟩ := isSum_dec 6 a h.2.2
    cases y with
    | str x =>
      refine ⟨.set x s, rfl, ?_⟩
      show (nameS x && (s.good && decide (s.depth ≤ 6))) = true
      have hx : nameS x = true := h.2.1
      rw [hx, g, decide_eq_true dp] <;> rfl
    | _ => have z := h.2.1; simp [isName] at z
  · cases h
theorem isSource_dec (d : PyData) (h : isSource d = true) : ∃ src : Src, d = encS src ∧ goodS src = true := by
  cases d with
  | tuple rs =>
    have h : (decide (rs.length ≤ 8) && rs.all isRow) = true := h
    rw [Bool.and_eq_true, List.all_eq_true] at h
    have key : ∀ l : List PyData, (∀ d ∈ l, isRow d = true) → ∃ src : Src, l = src.map Rw.enc ∧ ∀ r ∈ src, r.good = true := by
      intro l
      induction l with
      | nil => intro _; exact ⟨[], rfl, fun _ z => by cases z⟩
      | cons d l ih =>
        intro hl
        obtain ⟨src, rfl, hs⟩ := ih fun q hq => hl q (List.mem_cons_of_mem _ hq)
        obtain ⟨r, rfl, hr⟩ := isRow_dec d (hl d (List.mem_cons_self ..))
        exact ⟨r :: src, rfl, fun q hq => by
          rcases List.mem_cons.mp hq with rfl | hq
          · exact hr
          · exact hs q hq⟩
    obtain ⟨src, rfl, hs⟩ := key rs h.2
    refine ⟨src, rfl, ?_⟩
    unfold goodS
    rw [Bool.and_eq_true, List.all_eq_true]
    have h1 := of_decide_eq_true h.1
    rw [List.length_map] at h1
    exact ⟨decide_eq_true h1, hs⟩
  | _ => simp [isSource] at h
def F_sets (ds : List PyData) (o : Option PyData) : Prop := ∃ d, ds = [d] ∧ okD d = true ∧ ((∃ src, d = encS src ∧ goodS src = true ∧ o = some (.list ((sortU (setsOf src)).map PyData.str))) ∨ (isSource d = false ∧ o = none))
def F_reads (ds : List PyData) (o : Option PyData) : Prop := ∃ d, ds = [d] ∧ okD d = true ∧ ((∃ src, d = encS src ∧ goodS src = true ∧ o = some (.list ((readsOf src).map PyData.str))) ∨ (isSource d = false ∧ o = none))
theorem setsOf_len (src : Src) : (setsOf src).length ≤ src.length := by
  induction src with
  | nil => exact Nat.le_refl _
  | cons r src ih =>
    show (r.sets ++ setsOf src).length ≤ src.length + 1
    rw [List.length_append]
    have : r.sets.length ≤ 1 := by cases r <;> simp [Rw.sets]
    omega
section
variable {K : Frag} {σ : L2.St} {H0 H : Hp} {ta : TA} {D : Ends} {cB : Addr} {E : XK} {tw : TS} {F : List PyData → Option PyData → Prop}
/-- f(..) as a statement, f may refuse -/
theorem s_callX {ds : List PyData} {o : Option PyData} (h : EvDs K ta σ H0 ds) (x : Ex H0 H) (hf : F ds o) (k1 : ∀ d, o = some d → ∀ H1, Ex H H1 → D.nx σ H1) (k2 : o = none → ∀ H1, Ex H H1 → E (.ref cB) none H1) : tDrop (tCall (spDX K cB F) [] E ta) D σ H :=
  h H x _ fun vs H2 A g hd => ⟨ds, o, A, g.d2, by rw [List.append_nil]; exact hd, hf, fun d e v H3 B g3 _ => k1 d e H3 (g.ex.trans g3.ex), fun e H3 e3 => k2 e H3 (g.ex.trans e3)⟩
end
end LC

namespace LC
open PySem PySem.Spec PyProof.Rows L2 Evl
/-! ### one step behind the other: the base moves on -/
section
variable {K : Frag} {H0 H H1 H2 Hd Hd2 A Hs H' : Hp} {d : PyData} {Q : VK} {p : Addr} {out : List PyData} {σ : L2.St} {te : TE} {ta : TA} {D : Ends} {tu : TS} {i j : Nat}
theorem Gr.seq (g1 : Gr H0 H H1 Hd) (g2 : Gr Hd H1 H2 Hd2) : Gr H0 H H2 Hd2 := ⟨g1.ex.trans g2.ex, g1.xd.trans g2.xd, g2.d2, fun a h0 h1 => g2.fr a (g1.fr a h0 h1) (ne_none g1.ex h1)⟩
theorem Gr.refl (x : Ex H0 H) : Gr H0 H H H0 := Gr.base x (Ex.refl H)
theorem Rt.seq (k : Rt K H0 H d Q) (g : Gr H0 H H1 Hd) : Rt K Hd H1 d Q := fun v H2 Hd2 g2 => k v H2 Hd2 (g.seq g2)
theorem Acc.debase (a : Acc K Hd Hs p out H2) (g : Gr A H' H1 Hd) (x : Ex Hs H') : Acc K A Hs p out H2 := by
  obtain ⟨x0, B, acc, h1, h2, h3, h4, h5, h6⟩ := a
  exact ⟨x0, B, acc, h1, g.xd.trans h2, h3, h4, fun b hb hn => h5 b (g.fr b hb (ne_none x hn)) hn, h6⟩
theorem Acc.own (a : Acc K A Hs p out H') : H' p ≠ none := by
  obtain ⟨acc, q, _⟩ := a.at
  rw [q]
  exact fun z => nomatch z
/-- for k in range(n) -/
theorem s_forN {n : Nat} (h : EvDs K ta σ H0 [.int (n : Int)]) (x : Ex H0 H) (hn : n ≤ 100000) (Pv : Nat → L2.St → Hp → Prop) (h0 : ∀ H1, Ex H H1 → Pv 0 σ H1)
    (hs : ∀ (i : Nat) σ' H', i < n → Pv i σ' H' → tu { D with nx := Pv (i + 1), ct := Pv (i + 1), bk := D.nx } (σ'.set j (some (.int (i : Int)))) H') (hd : ∀ σ' H', Pv n σ' H' → D.nx σ' H') : tFor (iRng1 ta) (gName j) tu D σ H :=
  h H x _ fun ws H1 A gr hw => by
    obtain ⟨v, rfl, hv⟩ := dts1 hw
    rw [dp_int hv]
    refine ⟨n, rfl, by omega, by omega, for_range (lo := 0) (n := (n : Int).toNat) Pv (h0 H1 gr.ex) (fun i σ' H' hi q => ?_) fun σ' H' q => hd σ' H' (by rw [Int.toNat_natCast] at q; exact q)⟩
    have e0 : (0 : Int) + (i : Int) = (i : Int) := Int.zero_add _
    show tu { D with nx := Pv (i + 1), ct := Pv (i + 1), bk := D.nx } (σ'.set j (some (.int ((0 : Int) + (i : Int))))) H'
    rw [e0]
    exact hs i σ' H' (by omega) q
end
/-! ### the law's own numbers -/
def cellAt (ns : List Int) (k : Int) : Int := ns.getD k.toNat 0
def seedF (s k : Int) : Int := ((s * 1103515245 + 7919 * k + 12345) % 2147483647) ^ 5 % 2147483647
def spLcell (K : Frag) : Sp := fun vs H Q _ => ∃ (a : Addr) (ns : List Int) (k : Int), vs = [.ref a, .int k] ∧ SqL K H a (ns.map V.int) ∧ 0 ≤ k ∧ ns.length ≤ 63 ∧ ∀ H2, Ex H H2 → Q (.int (cellAt ns k)) H2
def F_seed (ds : List PyData) (d : PyData) : Prop := ∃ s k, ds = [.int s, .int k] ∧ d = .int (seedF s k)
def F_pick (ds : List PyData) (d : PyData) : Prop := ∃ s m : Int, ds = [.int s, .int m] ∧ 0 < m ∧ d = .int (s / 97 % m)
def leafs (s : Int) : List Sm := [.num (s / 7 % 10), .num (s / 7 % 4), .num (s / 7 % 10000), .num 0, .nm "a", .nm "b", .nm "c", .nm "wxyz", .nm "a", .nm "b"]
def lawLeaf (s : Int) : Sm := (leafs s).getD (s / 5 % 10).toNat (.num 0)
def lawWords : List Str := ["add", "less", "times", "over", "same", "if", "add"]
def lawWord (s : Int) : Str := lawWords.getD (s / 11 % 7).toNat "add"
def lawSum : Nat → Int → Sm
  | 0, s => lawLeaf s
  | n + 1, s => if s / 97 % 3 = 0 then lawLeaf s else if lawWord s = "if" then .ite (lawSum n (seedF s 0)) (lawSum n (seedF s 1)) (lawSum n (seedF s 2)) else .op (lawWord s) (lawSum n (seedF s 0)) (lawSum n (seedF s 1))
def F_lsum (n : Nat) (ds : List PyData) (d : PyData) : Prop := ∃ s : Int, ds = [.int s, .int (n : Int)] ∧ d = (lawSum n s).enc
theorem mod_lt10 (x m : Int) (h : 0 < m) : 0 ≤ x % m ∧ x % m < m := ⟨Int.emod_nonneg _ (by omega), Int.emod_lt_of_pos _ h⟩
theorem leaf_mem (s : Int) : lawLeaf s ∈ leafs s := by
  unfold lawLeaf
  have h := mod_lt10 (s / 5) 10 (by omega)
  rw [List.getD_eq_getElem?_getD, List.getElem?_eq_getElem (show (s / 5 % 10).toNat < (leafs s).length by show _ < 10; omega)]
  exact List.getElem_mem _
theorem leafs_good (s : Int) : ∀ q ∈ leafs s, q.good = true ∧ q.depth = 0 := by
  intro q hq
  have h1 := mod_lt10 (s / 7) 10 (by omega)
  have h2 := mod_lt10 (s / 7) 4 (by omega)
  have h3 := mod_lt10 (s / 7) 10000 (by omega)
  have na : nameS "a" = true := by decide +kernel
  have nb : nameS "b" = true := by decide +kernel
  have nc : nameS "c" = true := by decide +kernel
  have nw : nameS "wxyz" = true := by decide +kernel
  unfold leafs at hq
  simp only [List.mem_cons, List.not_mem_nil, or_false] at hq
  rcases hq with rfl | rfl | rfl | rfl | rfl | rfl | rfl | rfl | rfl | rfl
  · exact ⟨by show (decide _ && decide _) = true; rw [decide_eq_true h1.1, decide_eq_true (by omega)] <;> rfl, rfl⟩
  · exact ⟨by show (decide _ && decide _) = true; rw [decide_eq_true h2.1, decide_eq_true (by omega)] <;> rfl, rfl⟩
  · exact ⟨by show (decide _ && decide _) = true; rw [decide_eq_true h3.1, decide_eq_true (by omega)] <;> rfl, rfl⟩
  · exact ⟨by decide, rfl⟩
  · exact ⟨na, rfl⟩
  · exact ⟨nb, rfl⟩
  · exact ⟨nc, rfl⟩
  · exact ⟨nw, rfl⟩
  · exact ⟨na, rfl⟩
  · exact ⟨nb, rfl⟩
theorem word_mem (s : Int) : lawWord s ∈ lawWords := by
  unfold lawWord
  have h := mod_lt10 (s / 11) 7 (by omega)
  rw [List.getD_eq_getElem?_getD, List.getElem?_eq_getElem (show (s / 11 % 7).toNat < lawWords.length by show _ < 7; omega)]
  exact List.getElem_mem _
theorem word_good (s : Int) (h : ¬ lawWord s = "if") : lawWord s ∈ wordsS := by
  have q : lawWords.all (fun w => decide (w = "if") || decide (w ∈ wordsS)) = true := by decide +kernel
  have z := List.all_eq_true.mp q _ (word_mem s)
  rw [Bool.or_eq_true] at z
  rcases z with z | z
  · exact absurd (of_decide_eq_true z) h
  · exact of_decide_eq_true z
theorem lawSum_good : ∀ (n : Nat) (s : Int), (lawSum n s).good = true ∧ (lawSum n s).depth ≤ n
  | 0, s => by
    have h := leafs_good s _ (leaf_mem s)
    exact ⟨h.1, by show (lawLeaf s).depth ≤ 0; omega⟩
  | n + 1, s => by
    unfold lawSum
    have ih := fun k => lawSum_good n (seedF s k)
    split
    · have h := leafs_good s _ (leaf_mem s)
      exact ⟨h.1, by omega⟩
    · split
      · refine ⟨?_, ?_⟩
        · show (Sm.good _ && (Sm.good _ && Sm.good _)) = true
          rw [(ih 0).1, (ih 1).1, (ih 2).1] <;> rfl
        · show max _ (max _ _) + 1 ≤ n + 1
          have h0 := (ih 0).2
          have h1 := (ih 1).2
          have h2 := (ih 2).2
          omega
      · rename_i hw
        refine ⟨?_, ?_⟩
        · show (decide _ && (Sm.good _ && Sm.good _)) = true
          rw [decide_eq_true (word_good s hw), (ih 0).1, (ih 1).1] <;> rfl
        · show max _ _ + 1 ≤ n + 1
          have h0 := (ih 0).2
          have h1 := (ih 1).2
          omega
/-! a source drawn -/
def lawMany (s : Int) : Nat := ([s / 7 % 4, 1 + s / 7 % 3, s / 7 % 9].getD (s / 11 % 3).toNat 0).toNat
def lawDeep (s : Int) : Nat := if s / 13 % 9 = 0 then 6 else (s / 7 % 3).toNat
def lawName (s : Int) : Str := (["a", "b", "c", "wxyz"] : List Str).getD (s / 11 % 4).toNat "a"
def lawRow (one : Int) : Rw := if 0 < one / 97 % 3 then .set (lawName one) (lawSum (lawDeep one) (seedF one 1)) else .shw (lawSum (lawDeep one) (seedF one 1))
def lawSource (s : Int) : Src := (List.range (lawMany s)).map fun k : Nat => lawRow (seedF s (20 + (k : Int)))
def F_lsource (ds : List PyData) (d : PyData) : Prop := ∃ s : Int, ds = [.int s] ∧ d = encS (lawSource s)
theorem lawMany_le (s : Int) : lawMany s ≤ 8 := by
  unfold lawMany
  have h1 := mod_lt10 (s / 7) 4 (by omega)
  have h2 := mod_lt10 (s / 7) 3 (by omega)
  have h3 := mod_lt10 (s / 7) 9 (by omega)
  have h := mod_lt10 (s / 11) 3 (by omega)
  have hc : (s / 11 % 3).toNat = 0 ∨ (s / 11 % 3).toNat = 1 ∨ (s / 11 % 3).toNat = 2 := by omega
  rcases hc with e | e | e <;> rw [e] <;> simp <;> omega
theorem lawDeep_le (s : Int) : lawDeep s ≤ 6 := by
  unfold lawDeep
  have h2 := mod_lt10 (s / 7) 3 (by omega)
  split <;> omega
theorem lawName_good (s : Int) : nameS (lawName s) = true := by
  unfold lawName
  have h := mod_lt10 (s / 11) 4 (by omega)
  have hc : (s / 11 % 4).toNat = 0 ∨ (s / 11 % 4).toNat = 1 ∨ (s / 11 % 4).toNat = 2 ∨ (s / 11 % 4).toNat = 3 := by omega
  rcases hc with e | e | e | e <;> rw [e] <;> decide +kernel
theorem lawRow_good (s : Int) : (lawRow s).good = true := by
  have h := lawSum_good (lawDeep s) (seedF s 1)
  have hd := lawDeep_le s
  unfold lawRow
  split
  · show (nameS _ && (Sm.good _ && decide _)) = true
    rw [lawName_good, h.1, decide_eq_true (by omega)] <;> rfl
  · show (Sm.good _ && decide _) = true
    rw [h.1, decide_eq_true (by omega)] <;> rfl
theorem lawSource_good (s : Int) : goodS (lawSource s) = true := by
  unfold goodS lawSource
  rw [List.length_map, List.length_range, decide_eq_true (lawMany_le s), Bool.true_and, List.all_map, List.all_eq_true]
  intro k _
  exact lawRow_good _
theorem getD_atI {α : Type} (l : List α) (m : Int) (x : α) (h : 0 ≤ m) (hl : m < l.length) : atI l m = some (l.getD m.toNat x) := by
  obtain ⟨k, rfl⟩ : ∃ k : Nat, m = (k : Int) := ⟨m.toNat, by omega⟩
  refine atI_nat ?_
  rw [List.getD_eq_getElem?_getD, Int.toNat_natCast, List.getElem?_eq_getElem (by omega)]
  rfl
end LC
namespace LC
open PySem PySem.Spec PyProof.Rows L2 Evl
/-- .. with the def's address told -/
def HasF (P : Program) (w : World) (K : Frag) (mg : Str → Option Value) (base : Heap) (CX : CXT) (k : Nat) (x : Str) (ps : List Str) (sp : Sp) (f : Addr) (fd : FuncData) : Prop :=
  FnOk P w K mg base CX k f fd ps sp ∧ Binds K fd ps [] ∧ PySem.W.keepIn K (.ref f) = true ∧ mg x = some (.ref f)
def FU (F : Nat → List PyData → PyData → Prop) (m : Nat) (ds : List PyData) (d : PyData) : Prop := ∃ n, n ≤ m ∧ F n ds d
section
variable {P : Program} {w : World} {K : Frag} {mg : Str → Option Value} {base : Heap} {x q : Str} {st : Stmt} {f : Addr} {fd : FuncData} {N ps : List Str} {k j : Nat} {CX : CXT} {sp : Sp}
theorem HasF.has (h : HasF P w K mg base CX k x ps sp f fd) : Has P w K mg base CX k x ps sp := ⟨f, fd, h⟩
theorem HasF.union {F : Nat → List PyData → PyData → Prop} (m : Nat) (h : ∀ n, HasF P w K mg base CX (n + j) x ps (spD K (F n)) f fd) : Has P w K mg base CX (m + j) x ps (spD K (FU F m)) := by
  refine ⟨f, fd, ⟨fun vs H Q E z => ?_, fun A outer s H args us vs Q E hr e0 hb hv z => ?_⟩, (h 0).2⟩
  · obtain ⟨ds, d, H0, e, hd, ⟨n, _, hf⟩, hq⟩ := z
    exact (h n).1.len vs H Q E ⟨ds, d, H0, e, hd, hf, hq⟩
  · obtain ⟨ds, d, H0, e, hd, ⟨n, hn, hf⟩, hq⟩ := z
    exact (h n).1.run A outer s H args us vs Q E (hr.mono (by omega)) e0 hb hv ⟨ds, d, H0, e, hd, hf, hq⟩
theorem hasF_d {FF : List PyData → PyData → Prop} (F : FnP K x q st f fd) (g : mg x = some (.ref f)) (b : Binds K fd ps []) (S : FnScope N ps (defScope st)) (hl : ∀ ds d, FF ds d → ds.length = ps.length)
    (hbody : ∀ (cdv : Value) (A : Around) (outer : List Env) (s : Shared) (H : Hp) (vs : List V) (Q : VK) (E : XK) (ds : List PyData) (d : PyData) (H0 : Hp), Room k (A.deeper (envOfC q (defScope st) s.heap.objs.size f cdv)) →
      Ex H0 H → DtAll K H0 vs ds → FF ds d → (∀ v H2 Hd, Gr H0 H H2 Hd → Dt K Hd v d → Q v H2) →
      ∃ t, PSs (cxOf CX0 P w K mg base N q (defScope st) f cdv A outer s H E).nox (defBody st) t ∧ t { nx := fun _ H' => Q .non H', rt := Q } (start N vs) H) : HasF P w K mg base CX0 (k + 1) x ps (spD K FF) f fd := by
  refine ⟨F.ok S (fun vs H Q E h => ?_) (fun cdv A outer s H vs Q E hr h => ?_), b, F.kp, g⟩
  · obtain ⟨ds, d, H0, _, hd, hf, _⟩ := h
    rw [dpAll_len hd]
    exact hl ds d hf
  · obtain ⟨ds, d, H0, e, hd, hf, hq⟩ := h
    obtain ⟨t, ht, r⟩ := hbody cdv A outer s H vs Q E ds d H0 hr e hd hf hq
    exact ⟨t, PSs.nox ht, r⟩
end
end LC

namespace LC
open PySem PySem.Spec PyProof.Rows L2 Evl
section
variable {K : Frag} {σ : L2.St} {H : Hp} {ta : TA} {te : TE} {E : XK} {d : PyData}
theorem evd_callX {cB : Addr} {F : List PyData → Option PyData → Prop} {ds : List PyData} (h : EvDs K ta σ H ds) (hf : F ds (some d)) : EvD K (tCall (spDX K cB F) [] E ta) σ H d := fun H1 e Q q =>
  h H1 e _ fun vs H2 A g hd => ⟨ds, some d, A, g.d2, by rw [List.append_nil]; exact hd, hf, fun d' e' v H3 B g3 hv => q v H3 B (g.seq g3) (by cases e'; exact hv), fun z => by cases z⟩
theorem evd_cell {a : Addr} {ns : List Int} {k : Int} {ti : TE} (ha : Ev te σ H (.ref a)) (hk : Ev ti σ H (.int k)) (hS : SqL K H a (ns.map V.int)) (h0 : 0 ≤ k) (hl : ns.length ≤ 63) : EvD K (tCall (spLcell K) [] E (tCons te (tCons ti tNil))) σ H (.int (cellAt ns k)) :=
  evd_i fun H1 e Q q => ha H1 e _ fun H2 e2 => hk H2 (e.trans e2) _ fun H3 e3 => ⟨a, ns, k, rfl, ex_l ((e.trans e2).trans e3) hS, h0, hl, fun H4 e4 => q H4 ((e2.trans e3).trans e4)⟩
end
/-! shapes and equality of plain data -/
theorem shaped_of {d : PyData} (ok : okD d = true) (hd : d.depth ≤ 64) : SeqAt.shaped d = true := by
  have key : ∀ d : PyData, okD d = true → d.canLay0 = true := by
    intro d
    refine PyData.rec (motive_1 := fun d => okD d = true → d.canLay0 = true) (motive_2 := fun ds => okD.okAll ds = true → PyData.canLayAll0 ds = true) (motive_3 := fun _ => True) (motive_4 := fun _ => True) ?_ ?_ ?_ ?_ ?_ ?_ ?_ ?_ ?_ ?_ ?_ ?_ d
    · intro _; rfl
    · intro _ _; rfl
    · intro _ _; rfl
    · intro s h
      unfold okD at h
      unfold PyData.canLay0
      exact (Bool.and_eq_true_iff.mp h).2
    · intro ds ih h
      unfold okD at h
      unfold PyData.canLay0
      exact ih h
    · intro ds ih h
      unfold okD at h
      unfold PyData.canLay0
      exact ih h
    · intro _ _ h
      simp [okD] at h
    · intro _; rfl
    · intro d ds ih1 ih2 h
      unfold okD.okAll at h
      rw [Bool.and_eq_true] at h
      unfold PyData.canLayAll0
      rw [ih1 h.1, ih2 h.2] <;> rfl
    · trivial
    · intros; trivial
    · intros; trivial
  show (d.canLay0 && decide (d.depth ≤ 64)) = true
  rw [key d ok, decide_eq_true hd] <;> rfl
theorem depthAll_le : ∀ {ds : List PyData} {n : Nat}, (∀ d ∈ ds, d.depth ≤ n) → PyData.depthAll ds ≤ n
  | [], n, _ => by unfold PyData.depthAll; omega
  | d :: ds, n, h => by
    unfold PyData.depthAll
    have h1 := h d (List.mem_cons_self ..)
    have h2 := depthAll_le (ds := ds) (n := n) fun q hq => h q (List.mem_cons_of_mem _ hq)
    omega
theorem depth_list {ds : List PyData} {n : Nat} (h : ∀ d ∈ ds, d.depth ≤ n) : (PyData.list ds).depth ≤ n + 1 := by
  have := depthAll_le h
  unfold PyData.depth
  omega
theorem depth_tuple {ds : List PyData} {n : Nat} (h : ∀ d ∈ ds, d.depth ≤ n) : (PyData.tuple ds).depth ≤ n + 1 := by
  have := depthAll_le h
  unfold PyData.depth
  omega
theorem Sm.enc_depth : ∀ s : Sm, s.enc.depth ≤ s.depth
  | .num _ => by unfold Sm.enc PyData.depth; omega
  | .nm _ => by unfold Sm.enc PyData.depth; omega
  | .op w a b => by
    have h1 := Sm.enc_depth a
    have h2 := Sm.enc_depth b
    refine depth_tuple (n := max a.depth b.depth) fun d hd => ?_
    simp only [List.mem_cons, List.not_mem_nil, or_false] at hd
    rcases hd with rfl | rfl | rfl
    · unfold PyData.depth; omega
    · omega
    · omega
  | .ite a b c => by
    have h1 := Sm.enc_depth a
    have h2 := Sm.enc_depth b
    have h3 := Sm.enc_depth c
    refine depth_tuple (n := max a.depth (max b.depth c.depth)) fun d hd => ?_
    simp only [List.mem_cons, List.not_mem_nil, or_false] at hd
    rcases hd with rfl | rfl | rfl | rfl
    · unfold PyData.depth; omega
    · omega
    · omega
    · omega
theorem Rw.enc_depth {r : Rw} (h : r.good = true) : r.enc.depth ≤ 7 := by
  have g := Rw.good_sum h
  have hs := Sm.enc_depth r.sum
  cases r with
  | set x s =>
    refine depth_tuple (n := 6) fun d hd => ?_
    simp only [List.mem_cons, List.not_mem_nil, or_false] at hd
    rcases hd with rfl | rfl | rfl
    · unfold PyData.depth; omega
    · unfold PyData.depth; omega
    · exact Nat.le_trans hs g.2
  | shw s =>
    refine depth_tuple (n := 6) fun d hd => ?_
    simp only [List.mem_cons, List.not_mem_nil, or_false] at hd
    rcases hd with rfl | rfl
    · unfold PyData.depth; omega
    · exact Nat.le_trans hs g.2
theorem src_depth {src : Src} (h : goodS src = true) : (encS src).depth ≤ 8 := depth_tuple (n := 7) fun d hd => by
  obtain ⟨r, hr, rfl⟩ := List.mem_map.mp hd
  exact Rw.enc_depth (goodS_row h hr)
theorem src_shaped {src : Src} (h : goodS src = true) : SeqAt.shaped (encS src) = true := shaped_of (ok_src src h) (Nat.le_trans (src_depth h) (by decide))
theorem shaped_strs {l : List Str} (h : ∀ x ∈ l, nameS x = true) : SeqAt.shaped (.list (l.map PyData.str)) = true := by
  refine shaped_of (ok_lst_of fun d hd => ?_) (Nat.le_trans (depth_list (n := 0) fun d hd => ?_) (by decide))
  · obtain ⟨x, hx, rfl⟩ := List.mem_map.mp hd
    exact ok_of_name (h x hx)
  · obtain ⟨x, hx, rfl⟩ := List.mem_map.mp hd
    unfold PyData.depth
    omega
theorem names_good : ∀ (s : Sm), s.good = true → ∀ x ∈ s.names, nameS x = true
  | .num _, _, x, hx => by cases hx
  | .nm y, h, x, hx => by
    have e : x = y := by simpa [Sm.names] using hx
    rw [e]
    exact h
  | .op w a b, h, x, hx => by
    have h : (decide (w ∈ wordsS) && (a.good && b.good)) = true := h
    simp only [Bool.and_eq_true] at h
    have hx : x ∈ a.names ++ b.names := hx
    rcases List.mem_append.mp hx with q | q
    · exact names_good a h.2.1 x q
    · exact names_good b h.2.2 x q
  | .ite a b c, h, x, hx => by
    have h : (a.good && (b.good && c.good)) = true := h
    simp only [Bool.and_eq_true] at h
    have hx : x ∈ a.names ++ (b.names ++ c.names) := hx
    rcases List.mem_append.mp hx with q | q
    · exact names_good a h.1 x q
    · rcases List.mem_append.mp q with q | q
      · exact names_good b h.2.1 x q
      · exact names_good c h.2.2 x q
theorem addName_mem {ms f : List Str} {x y : Str} (h : y ∈ addName ms f x) : y ∈ f ∨ y = x := by
  unfold addName at h
  split at h
  · exact .inl h
  · rcases List.mem_append.mp h with q | q
    · exact .inl q
    · exact .inr (by simpa using q)
theorem foldl_addName_mem (ms : List Str) : ∀ (l f : List Str) (y : Str), y ∈ l.foldl (addName ms) f → y ∈ f ∨ y ∈ l
  | [], f, y, h => .inl h
  | x :: l, f, y, h => by
    rcases foldl_addName_mem ms l (addName ms f x) y h with q | q
    · rcases addName_mem q with q | q
      · exact .inl q
      · exact .inr (by rw [q]; exact List.mem_cons_self ..)
    · exact .inr (List.mem_cons_of_mem _ q)
theorem reads_good (src : Src) (h : ∀ r ∈ src, r.good = true) : ∀ acc : List Str × List Str, (∀ x ∈ acc.1, nameS x = true) → ∀ x ∈ (src.foldl readsGo acc).1, nameS x = true := by
  induction src with
  | nil => intro acc ha; exact ha
  | cons r src ih =>
    intro acc ha
    refine ih (fun q hq => h q (List.mem_cons_of_mem _ hq)) (readsGo acc r) fun x hx => ?_
    rw [readsGo_eq] at hx
    rcases foldl_addName_mem acc.2 _ _ x hx with q | q
    · exact ha x q
    · exact names_good _ (Rw.good_sum (h r (List.mem_cons_self ..))).1 x q
theorem readsOf_good {src : Src} (h : goodS src = true) : ∀ x ∈ readsOf src, nameS x = true := reads_good src (fun r hr => goodS_row h hr) ([], []) fun x hx => by cases hx
theorem mine_eq (src : Src) : ∀ acc : List Str × List Str, (src.foldl readsGo acc).2 = acc.2 ++ setsOf src := by
  induction src with
  | nil => intro acc; simp [setsOf]
  | cons r src ih =>
    intro acc
    rw [List.foldl_cons, ih (readsGo acc r), readsGo_eq]
    simp [setsOf]
theorem setsOf_good {src : Src} (h : goodS src = true) : ∀ x ∈ setsOf src, nameS x = true := fun x hx => by
  obtain ⟨r, hr, hx⟩ := List.mem_flatMap.mp hx
  have g := goodS_row h hr
  cases r with
  | set y s =>
    have e : x = y := by simpa [Rw.sets] using hx
    have g : (nameS y && (s.good && decide (s.depth ≤ 6))) = true := g
    rw [Bool.and_eq_true] at g
    rw [e]
    exact g.1
  | shw s => cases hx
theorem sortU_mem {x : Str} {xs : List Str} : x ∈ sortU xs ↔ x ∈ xs := by
  unfold sortU
  rw [(List.mergeSort_perm _ _).mem_iff, mem_nub]
def spLaw (K : Frag) : Sp := fun vs H Q _ => ∃ (a : Addr) (ns : List Int), vs = [.ref a] ∧ SqL K H a (ns.map V.int) ∧ ns.length ≤ 63 ∧ ∀ H', Q (.bl true) H'
def isShowD : PyData → Bool
  | .tuple (.str w :: _) => w == "show"
  | _ => false
def Rw.isShw : Rw → Bool
  | .shw _ => true
  | .set _ _ => false
theorem isShowD_enc (r : Rw) : isShowD r.enc = r.isShw := by
  cases r with
  | set x s =>
    show (("set" : Str) == "show") = false
    decide +kernel
  | shw s => rfl
theorem shows_data (src : Src) : ((src.map Rw.enc).filter isShowD).map id = (src.filter Rw.isShw).map Rw.enc := by
  rw [List.map_id, List.filter_map]
  congr 1
  refine List.filter_congr fun r _ => ?_
  exact isShowD_enc r
theorem shows_good {src : Src} (h : goodS src = true) : goodS (src.filter Rw.isShw) = true := by
  unfold goodS at h ⊢
  simp only [Bool.and_eq_true, decide_eq_true_eq, List.all_eq_true] at h ⊢
  exact ⟨Nat.le_trans (List.length_filter_le _ _) h.1, fun r hr => h.2 r (List.mem_filter.mp hr).1⟩
theorem shows_sets (src : Src) : setsOf (src.filter Rw.isShw) = [] := by
  unfold setsOf
  rw [List.flatMap_eq_nil_iff]
  intro r hr
  have h := (List.mem_filter.mp hr).2
  cases r with
  | set x s => cases h
  | shw s => rfl
theorem ev_isShow {K : Frag} {σ : L2.St} {H : Hp} {te : TE} {r : Rw} (h : EvD K te σ H r.enc) : Ev (tOp (rEqD K) (tOp (rIx K) te (tC (.int 0))) (tC (.str "show"))) σ H (.bl (isShowD r.enc)) := by
  cases r with
  | set x s => exact ev_is (ev_eq (evd_ixT (d := .str "set") h evd_int (atI_0 _ _)) evd_str (by decide +kernel) (by decide +kernel)) rfl
  | shw s => exact ev_is (ev_eq (evd_ixT (d := .str "show") h evd_int (atI_0 _ _)) evd_str (by decide +kernel) (by decide +kernel)) rfl
end LC

namespace LC
open PySem PySem.Spec PyProof.Rows L2 Evl
section
variable {P : Program} {w : World} {K : Frag} {mg : Str → Option Value} {base : Heap} {x q : Str} {st : Stmt} {f : Addr} {fd : FuncData} {N ps : List Str} {k : Nat} {sp : Sp}
theorem hasF_p (F : FnP K x q st f fd) (g : mg x = some (.ref f)) (b : Binds K fd ps []) (S : FnScope N ps (defScope st)) (len : ∀ vs H Q E, sp vs H Q E → vs.length = ps.length)
    (hbody : ∀ (cdv : Value) (A : Around) (outer : List Env) (s : Shared) (H : Hp) (vs : List V) (Q : VK) (E : XK), Room k (A.deeper (envOfC q (defScope st) s.heap.objs.size f cdv)) → sp vs H Q E →
      ∃ t, PSs (cxOf CX0 P w K mg base N q (defScope st) f cdv A outer s H E).nox (defBody st) t ∧ t { nx := fun _ H' => Q .non H', rt := Q } (start N vs) H) : HasF P w K mg base CX0 (k + 1) x ps sp f fd :=
  ⟨F.ok S len (fun cdv A outer s H vs Q E hr h => by
    obtain ⟨t, ht, r⟩ := hbody cdv A outer s H vs Q E hr h
    exact ⟨t, PSs.nox ht, r⟩), b, F.kp, g⟩
end
theorem map_strs (K : Frag) (xs : List Str) : (xs.map He.Dv.str).map (He.Dv.v K) = xs.map V.str := by rw [List.map_map] <;> rfl
theorem tup_strs {K : Frag} {x : Str} (xs : List Str) (h : He.tupB K x (xs.map He.Dv.str) = true) (H : Hp) : Dt K H (.ref (He.ga K x)) (.tuple (xs.map PyData.str)) := by
  refine .tup (xs := xs.map V.str) ?_ (dt_strs xs)
  rw [← map_strs K]
  exact He.tupB_ok h H
end LC

namespace LC
open PySem PySem.Spec PyProof.Rows L2 Evl
/-! ### a def that may raise, called in a try -/
section
variable {X : Cx} {CX : CXT} {k j : Nat} {x : Str} {ps : List Str} {sp : Sp} {E : L2.St → XK} {p pos : Pos} {e : Expr} {es : List Expr} {t : TA}
theorem pe_hasS (F : Has X.prog X.w X.K X.mg X.base CX k x ps sp) (hr : Room j X.A) (hk : k ≤ j) (hg : Gl X x) (hx : ∀ σ, PassesAt CX X σ (E σ)) (ha : PA X (e :: es) t) (hdb : (x == ("__debug__" : Str)) = false := by decide)
    (he : starEach (e :: es) X.env = (false, eval e X.env) :: starEach es X.env := by rfl) (hpl : (backTo pos (starEach es X.env)).any (·.1) = false := by rfl) : PE X (.Call (.Name x p) (e :: es) [] pos) (tCallS sp E t) := by
  obtain ⟨f, fd, G, b, kp, m⟩ := F
  exact pe_callS G (hr.mono hk) hg m kp b hx ha hdb he hpl
end
section
variable {K : Frag} {σ : L2.St} {H H0 H1 H' : Hp} {ta tb tc te : TE} {D : Ends} {d : PyData}
theorem ev_notIs {a b : Bool} (ha : EvD K ta σ H (.bool a)) (hb : EvD K tb σ H (.bool b)) : Ev (tOp rNotB ta tb) σ H (.bl (!decide (a = b))) := ev_opd ha hb fun x y H1 hx hy Q q => ⟨a, b, dp_bool hx, dp_bool hy, q⟩
theorem ev_isB {a b : Bool} (ha : EvD K ta σ H (.bool a)) (hb : EvD K tb σ H (.bool b)) : Ev (tOp rIsB ta tb) σ H (.bl (decide (a = b))) := ev_opd ha hb fun x y H1 hx hy Q q => ⟨a, b, dp_bool hx, dp_bool hy, q⟩
abbrev rLeS : R2 := fun x y H Q => ∃ i j, x = .str i ∧ y = .str j ∧ Q (.bl (!decide (j.cps.toList < i.cps.toList))) H
theorem kLeS {X : Cx} : OpR X (compareOp .LtE) rLeS := op_le_str
theorem ev_chainS {i j k : Str} (ha : EvD K ta σ H (.str i)) (hb : EvD K tb σ H (.str j)) (hc : EvD K tc σ H (.str k)) :
    Ev (tChain rLeS rLeS ta tb tc) σ H (.bl (!decide (j.cps.toList < i.cps.toList) && !decide (k.cps.toList < j.cps.toList))) := fun H1 e Q hq =>
  ev_str ha H1 e _ fun H2 e2 => ev_str hb H2 (e.trans e2) _ fun H3 e3 => ⟨i, j, rfl, rfl, _, rfl, by
    cases hp : !decide (j.cps.toList < i.cps.toList) with
    | true =>
      show tc σ H3 _
      refine ev_str hc H3 ((e.trans e2).trans e3) _ fun H4 e4 => ⟨j, k, rfl, rfl, ?_⟩
      have := hq H4 ((e2.trans e3).trans e4)
      rw [hp] at this
      exact this
    | false =>
      show Q (.bl false) H3
      have := hq H3 (e2.trans e3)
      rw [hp] at this
      exact this⟩
theorem Rt.retB {b : Bool} (k : Rt K H0 H (.bool b) D.rt) (x : Ex H0 H) (e : Ex H H1) (h : EvD K te σ H1 d) (hd : d = .bool b) : tRet te D σ H1 := by
  subst hd
  exact h H1 (Ex.refl _) _ fun v H2 Hd g hd => k v H2 H0 (Gr.base x (e.trans g.ex)) (by rw [dp_bool hd]; exact .bl b)
end
/-! ### the law's own words of a source -/
def sizesK : List (Key × V) := [(.inr "add", .int 3), (.inr "less", .int 3), (.inr "times", .int 3), (.inr "over", .int 3), (.inr "same", .int 3), (.inr "if", .int 4)]
abbrev sizesT : List (TE × TE) := [(tC (.str "add"), tC (.int 3)), (tC (.str "less"), tC (.int 3)), (tC (.str "times"), tC (.int 3)), (tC (.str "over"), tC (.int 3)), (tC (.str "same"), tC (.int 3)), (tC (.str "if"), tC (.int 4))]
theorem sizesK_merge : mergeK [] sizesK = sizesK := by decide +kernel
theorem s_sizes {D : Ends} {σ : L2.St} {H : Hp} {i : Nat} (k : ∀ p H1, Ex H H1 → H1 p = some (.dK sizesK) → D.nx (σ.set i (some (.ref p))) H1) : tAsg (tDisp sizesT) (gName i) D σ H := by
  intro p hp
  refine ⟨upd_same, sizesK, rfl, by decide, ?_⟩
  rw [sizesK_merge]
  exact k p _ (ex_upd (ex_upd (Ex.refl H) hp) hp) upd_same
def sizeOf (w : Str) : Int := if w ∈ wordsS then 3 else if w = "if" then 4 else 0
theorem sizes_val (w : Str) : (valV sizesK (.inr w)).getD (.int 0) = .int (sizeOf w) := by
  have key : ∀ z : Str, z = w ∨ ¬ z = w := fun z => Classical.em _
  unfold sizeOf wordsS
  by_cases h1 : w = "add"
  · subst h1; decide +kernel
  by_cases h2 : w = "less"
  · subst h2; decide +kernel
  by_cases h3 : w = "times"
  · subst h3; decide +kernel
  by_cases h4 : w = "over"
  · subst h4; decide +kernel
  by_cases h5 : w = "same"
  · subst h5; decide +kernel
  by_cases h6 : w = "if"
  · subst h6; decide +kernel
  have e : valV sizesK (.inr w) = none := by
    unfold sizesK
    rw [valV_neg, valV_neg, valV_neg, valV_neg, valV_neg, valV_neg]
    · rfl
    all_goals
      intro z
      have z := Sum.inr.inj z
      simp_all
  rw [e]
  simp [h1, h2, h3, h4, h5, h6]
theorem size_head (w : Str) (n : Nat) : (((n + 1 : Nat) : Int) == sizeOf w) = sumHead w (n + 1) := by
  unfold sizeOf sumHead
  by_cases h1 : w ∈ wordsS
  · have h2 : ¬ w = "if" := fun z => noIf (z ▸ h1)
    rw [if_pos h1, decide_eq_true h1, decide_eq_false h2, Bool.eq_iff_iff]
    simp
    omega
  · rw [if_neg h1, decide_eq_false h1]
    by_cases h2 : w = "if"
    · rw [if_pos h2, decide_eq_true h2, Bool.eq_iff_iff]
      simp
      omega
    · rw [if_neg h2, decide_eq_false h2, Bool.eq_iff_iff]
      simp
      omega
section
variable {K : Frag} {σ : L2.St} {H : Hp} {ty : TE} {w : Str} {i : Nat} {p : Addr}
theorem ev_sizeGet (hs : σ[i]? = some (some (.ref p))) (hp : H p = some (.dK sizesK)) (hw : EvD K ty σ H (.str w)) : Ev (tDGet2 (tVar i) ty (tC (.int 0))) σ H (.int (sizeOf w)) := fun H1 e Q q => by
  refine ⟨.ref p, hs, p, rfl, .inl ⟨_, .inl (e _ _ hp)⟩, ?_⟩
  refine hw H1 e _ fun v H2 Hd g hd => ?_
  rw [dp_str hd]
  have h2 : H2 p = some (.dK sizesK) := g.ex _ _ (e _ _ hp)
  refine ⟨_, DGet.k (k := .inr w) h2, ?_⟩
  rw [sizes_val]
  exact q H2 g.ex
end
/-- signs of a to z -/
theorem small_le (c : Nat) : (!decide ((⟨#[c]⟩ : Str).cps.toList < ("a" : Str).cps.toList) && !decide (("z" : Str).cps.toList < (⟨#[c]⟩ : Str).cps.toList)) = decide (c ∈ smallS.cps.toList) := by
  have ea : ("a" : Str).cps.toList = [97] := by decide +kernel
  have ez : ("z" : Str).cps.toList = [122] := by decide +kernel
  have es : smallS.cps.toList = (List.range 26).map (· + 97) := by decide +kernel
  rw [ea, ez, es]
  show (!decide ([c] < [97]) && !decide ([122] < [c])) = _
  rw [Bool.eq_iff_iff]
  simp only [Bool.and_eq_true, Bool.not_eq_true', decide_eq_false_iff_not, decide_eq_true_eq, List.mem_map, List.mem_range]
  have l1 : ([c] < [97]) ↔ c < 97 := by simp [List.cons_lt_cons_iff]
  have l2 : ([122] < [c]) ↔ 122 < c := by simp [List.cons_lt_cons_iff]
  rw [l1, l2]
  constructor
  · intro h
    exact ⟨c - 97, by omega, by omega⟩
  · rintro ⟨a, ha, rfl⟩
    omega
def barred7 : List Str := ["add", "less", "over", "same", "if", "set", "show"]
theorem name7 (z : Str) (hl : z.length ≤ 4) : decide (z ∈ barred7) = decide (z ∈ barredS) := by
  have ht : ("times" : Str).length = 5 := by decide +kernel
  have hn : ¬ z = "times" := fun e => by rw [e, ht] at hl; omega
  unfold barred7 barredS
  rw [Bool.eq_iff_iff]
  simp [hn]
def F_kname (ds : List PyData) (d : PyData) : Prop := ∃ z : Str, ds = [.str z] ∧ okD (.str z) = true ∧ d = .bool (nameS z)
def F_ksum (n : Nat) (ds : List PyData) (d : PyData) : Prop := ∃ x, ds = [x, .int (6 - (n : Int))] ∧ okD x = true ∧ x.depth ≤ 60 ∧ d = .bool (isSum n x)
def headOk : PyData → Bool
  | .tuple (h :: _) => flatD h
  | _ => true
def F_ksource (ds : List PyData) (d : PyData) : Prop := ∃ rs x, ds = [x] ∧ (x = .tuple rs ∨ (rs = [] ∧ isT x "tuple" = false)) ∧ okD x = true ∧ x.depth ≤ 60 ∧ (∀ r ∈ rs, headOk r = true) ∧ d = .bool (isSource x)
def F_none (ds : List PyData) (o : Option PyData) : Prop := ∃ d, ds = [d] ∧ okD d = true ∧ isSource d = false ∧ o = none
def F_kof (ds : List PyData) (o : Option PyData) : Prop := ∃ (i : Int) (d : PyData), ds = [.int i, d] ∧ okD d = true ∧ isSource d = false ∧ o = none
def Fnever (ds : List PyData) (d : PyData) : Prop := False
theorem eqv_nil (l : List PyData) : PyData.eqv (.list l) (.list []) = l.isEmpty := by cases l <;> rfl
theorem eqv_unit (l : List PyData) : PyData.eqv (.tuple l) (.tuple []) = l.isEmpty := by cases l <;> rfl
theorem depth_mem {ds : List PyData} {d : PyData} (h : d ∈ ds) : d.depth ≤ PyData.depthAll ds := by
  induction ds with
  | nil => cases h
  | cons e ds ih =>
    unfold PyData.depthAll
    rcases List.mem_cons.mp h with rfl | h
    · exact Nat.le_max_left _ _
    · exact Nat.le_trans (ih h) (Nat.le_max_right _ _)
theorem depth_tup {ds : List PyData} {d : PyData} {n : Nat} (h : (PyData.tuple ds).depth ≤ n) (hd : d ∈ ds) : d.depth ≤ n := by
  unfold PyData.depth at h
  have := depth_mem hd
  omega
end LC
namespace LC
open PySem PySem.Spec PyProof.Rows L2 Evl
section
variable {K : Frag} {σ : L2.St} {H H0 : Hp} {ta tb te : TE} {t : TT} {targs : TA} {D : Ends} {E : XK}
theorem dpAll_rep {vs : List V} {ds : List PyData} (h : DtAll K H vs ds) : ∀ n : Nat, DtAll K H (List.replicate n vs).flatten (List.replicate n ds).flatten
  | 0 => .nil
  | n + 1 => by
    rw [List.replicate_succ, List.replicate_succ, List.flatten_cons, List.flatten_cons]
    exact dpAll_app h (dpAll_rep h n)
theorem evd_mulT {ds : List PyData} {n : Int} (ha : EvD K ta σ H (.tuple ds)) (hb : EvD K tb σ H (.int n)) (h0 : ds ≠ []) (h2 : 2 ≤ n ∧ n ≤ 1000) (hl : ds.length ≤ 1000) : EvD K (tOp (rMulU K) ta tb) σ H (.tuple (List.replicate n.toNat ds).flatten) := evd_op ha hb fun x y H1 A e hx hy Q q => by
  obtain ⟨a, xs, rfl, hs, hall⟩ := dp_tup hx
  rw [dp_int hy]
  have hlen := dpAll_len hall
  refine .inr (.inr ⟨a, n, xs, rfl, rfl, ex_t e hs, ?_, h2.1, h2.2, by omega, fun p hp => q _ _ _ ((Gr.base (Ex.refl A |>.trans e) (Ex.refl H1)).new _ hp) (.tup (st_of upd_same) (dpAll_ex (Ex.new (fresh_back e hp)) _ _ (dpAll_rep hall _)))⟩)
  intro z
  rw [z] at hlen
  exact h0 (List.eq_nil_of_length_eq_zero hlen.symm)
theorem cut_take (ds : List PyData) (n : Nat) (h : n ≤ ds.length) : cutD ds none (some (n : Int)) = ds.take n := by
  have e : HT.sIx ds.length ds.length (some (n : Int)) = n := by
    rw [HT.sIx_nat]
    omega
  unfold cutD
  rw [e, HT.sIx_none]
  simp
theorem cut_drop (ds : List PyData) (n : Nat) (h : n ≤ ds.length) : cutD ds (some (n : Int)) none = ds.drop n := by
  have e : HT.sIx ds.length 0 (some (n : Int)) = n := by
    rw [HT.sIx_nat]
    omega
  unfold cutD
  rw [e, HT.sIx_none]
  rw [List.take_of_length_le]
  rw [List.length_drop]
  omega
/-- an if that is not taken, with nothing behind else -/
theorem s_skip {tu : TS} (h : EvT t σ H0 false) (x : Ex H0 H) (k : ∀ H1, Ex H H1 → D.nx σ H1) : tIfS t tu tNext D σ H := s_ifD h x (fun z => nomatch z) fun _ => k
/-- a call that is refused -/
theorem x_call {cB : Addr} {F : List PyData → Option PyData → Prop} {ds : List PyData} {Q : VK} (h : EvDs K targs σ H0 ds) (x : Ex H0 H) (hf : F ds none) (k : ∀ H1, Ex H H1 → E (.ref cB) none H1) : tCall (spDX K cB F) [] E targs σ H Q :=
  h H x _ fun vs H2 A g hd => ⟨ds, none, A, g.d2, by rw [List.append_nil]; exact hd, hf, fun d e => (nomatch e), fun e H3 e3 => k H3 (g.ex.trans e3)⟩
theorem x_if {b : Bool} {Q : VK} (h : EvT t σ H0 b) (x : Ex H0 H) (k1 : b = true → ∀ H1, Ex H H1 → ta σ H1 Q) (k2 : b = false → ∀ H1, Ex H H1 → tb σ H1 Q) : tIf t ta tb σ H Q := h H x _ fun H2 e2 => by
  cases b with
  | true => exact k1 rfl H2 e2
  | false => exact k2 rfl H2 e2
/-- .. in a try -/
theorem s_tryX {cB : Addr} {F : List PyData → Option PyData → Prop} {ds : List PyData} {ES : L2.St → XK} (h : EvDs K targs σ H0 ds) (x : Ex H0 H) (hf : F ds none) (k : ∀ H1, Ex H H1 → ES σ (.ref cB) none H1) : tDrop (tCallS (spDX K cB F) ES targs) D σ H :=
  h H x _ fun vs H2 A g hd => ⟨ds, none, A, g.d2, hd, hf, fun d e => (nomatch e), fun e H3 e3 => k H3 (g.ex.trans e3)⟩
end
/-! the law's spoilt rows -/
def deepD : Nat → PyData
  | 0 => .str "a"
  | n + 1 => .tuple [.str "add", deepD n, .int 1]
def odd1 : List PyData := [.none, .str "show", .tuple [], .tuple [.str "show"], .tuple [.str "show", .int 1, .int 2], .tuple [.str "set", .str "a"], .tuple [.str "set", .str "if", .int 1], .tuple [.str "set", .str "A", .int 1]]
def odd2 : List PyData := [.tuple [.str "set", .str "abcde", .int 1], .tuple [.str "put", .int 1], .list [.str "show", .int 1], .tuple [.int 1, .int 2], .tuple [.str "show", .int (-1)], .tuple [.str "show", .int 10000], .tuple [.str "show", .bool true]]
def odd3 : List PyData := [.tuple [.str "show", .str "show"], .tuple [.str "show", .tuple [.str "plus", .int 1, .int 2]], .tuple [.str "show", .tuple [.str "add", .int 1]], .tuple [.str "show", .tuple [.str "if", .int 1, .int 2]]]
def odd4 : List PyData := [.tuple [.str "show", .list [.str "add", .int 1, .int 2]], .tuple [.str "show", .tuple []]]
def odd5 : List PyData := [.tuple [.str "show", deepD 7], .tuple [.str "show", .none], .tuple [.str "set", .str "", .int 1]]
def oddD : List PyData := (((odd1 ++ odd2) ++ odd3) ++ odd4) ++ odd5
def rowsOf : PyData → List PyData
  | .tuple ds => ds
  | _ => []
def badOk (d : PyData) : Bool := okD d && (decide (d.depth ≤ 50) && (!isRow d && (headOk d && (rowsOf d).all headOk)))
theorem odd_ok : oddD.all badOk = true := by decide +kernel
theorem deep_ok : isSource (.tuple (List.replicate 8 [PyData.tuple [.str "show", deepD 6]]).flatten) = true := by decide +kernel
theorem odd_len : oddD.length = 24 := by decide +kernel
def badsD (src : Src) (bad : PyData) (k : Nat) : List PyData := [.tuple ((src.map Rw.enc).take k ++ [bad] ++ (src.map Rw.enc).drop k), .list (src.map Rw.enc), bad, .tuple (List.replicate 9 [PyData.tuple [.str "show", .int 1]]).flatten]
theorem badOk_iff {d : PyData} (h : badOk d = true) : okD d = true ∧ d.depth ≤ 50 ∧ isRow d = false ∧ headOk d = true ∧ (rowsOf d).all headOk = true := by
  unfold badOk at h
  simp only [Bool.and_eq_true, decide_eq_true_eq, Bool.not_eq_true'] at h
  exact h
theorem enc_head (r : Rw) : headOk r.enc = true := by cases r <;> rfl
theorem mem_spoilt {src : Src} {bad d : PyData} {k : Nat} (h : d ∈ (src.map Rw.enc).take k ++ [bad] ++ (src.map Rw.enc).drop k) : d = bad ∨ ∃ r ∈ src, d = r.enc := by
  simp only [List.mem_append, List.mem_singleton] at h
  rcases h with (h | h) | h
  · obtain ⟨r, hr, e⟩ := List.mem_map.mp (List.mem_of_mem_take h)
    exact .inr ⟨r, hr, e.symm⟩
  · exact .inl h
  · obtain ⟨r, hr, e⟩ := List.mem_map.mp (List.mem_of_mem_drop h)
    exact .inr ⟨r, hr, e.symm⟩
theorem bads_ok {src : Src} (hg : goodS src = true) {bad : PyData} (hb : badOk bad = true) (k : Nat) : ∀ d ∈ badsD src bad k, okD d = true ∧ d.depth ≤ 60 ∧ ∃ rs, (d = .tuple rs ∨ (rs = [] ∧ isT d "tuple" = false)) ∧ ∀ r ∈ rs, headOk r = true := by
  obtain ⟨b1, b2, b3, b4, b5⟩ := badOk_iff hb
  intro d hd
  unfold badsD at hd
  simp only [List.mem_cons, List.not_mem_nil, or_false] at hd
  rcases hd with rfl | rfl | rfl | rfl
  · refine ⟨ok_tup_of fun d hd => ?_, Nat.le_trans (depth_tuple (n := 50) fun d hd => ?_) (by decide), _, .inl rfl, fun d hd => ?_⟩
    · rcases mem_spoilt hd with rfl | ⟨r, hr, rfl⟩
      · exact b1
      · exact ok_row r (goodS_row hg hr)
    · rcases mem_spoilt hd with rfl | ⟨r, hr, rfl⟩
      · exact b2
      · exact Nat.le_trans (Rw.enc_depth (goodS_row hg hr)) (by decide)
    · rcases mem_spoilt hd with rfl | ⟨r, hr, rfl⟩
      · exact b4
      · exact enc_head r
  · refine ⟨ok_lst_of fun d hd => ?_, Nat.le_trans (depth_list (n := 50) fun d hd => ?_) (by decide), [], .inr ⟨rfl, rfl⟩, fun d hd => (nomatch hd)⟩
    · obtain ⟨r, hr, rfl⟩ := List.mem_map.mp hd
      exact ok_row r (goodS_row hg hr)
    · obtain ⟨r, hr, rfl⟩ := List.mem_map.mp hd
      exact Nat.le_trans (Rw.enc_depth (goodS_row hg hr)) (by decide)
  · refine ⟨b1, Nat.le_trans b2 (by decide), ?_⟩
    cases hT : isT d "tuple" with
    | false => exact ⟨[], .inr ⟨rfl, rfl⟩, fun d hd => (nomatch hd)⟩
    | true =>
      obtain ⟨ds, rfl⟩ := isT_tup hT
      exact ⟨ds, .inl rfl, fun r hr => List.all_eq_true.mp b5 r hr⟩
  · refine ⟨by decide +kernel, by decide +kernel, _, .inl rfl, fun r hr => ?_⟩
    have : (List.replicate 9 [PyData.tuple [.str "show", .int 1]]).flatten.all headOk = true := by decide +kernel
    exact List.all_eq_true.mp this r hr
theorem bads_no {src : Src} {bad : PyData} (hb : badOk bad = true) (k : Nat) : ∀ d ∈ badsD src bad k, d = bad ∨ isSource d = false := by
  obtain ⟨b1, b2, b3, b4, b5⟩ := badOk_iff hb
  intro d hd
  unfold badsD at hd
  simp only [List.mem_cons, List.not_mem_nil, or_false] at hd
  rcases hd with rfl | rfl | rfl | rfl
  · right
    show (decide (_ ≤ 8) && _) = false
    rw [Bool.and_eq_false_iff]
    right
    rw [List.all_eq_false]
    exact ⟨bad, by simp, by rw [b3]; simp⟩
  · exact .inr rfl
  · exact .inl rfl
  · right
    decide +kernel
theorem bads_at {src : Src} {bad : PyData} (hb : badOk bad = true) (k : Nat) (i : Nat) (h : i = 0 ∨ i = 1 ∨ i = 3) : ∃ d, (badsD src bad k)[i]? = some d ∧ isSource d = false := by
  obtain ⟨b1, b2, b3, b4, b5⟩ := badOk_iff hb
  rcases h with rfl | rfl | rfl
  · refine ⟨_, rfl, ?_⟩
    show (decide (_ ≤ 8) && _) = false
    rw [Bool.and_eq_false_iff]
    right
    rw [List.all_eq_false]
    exact ⟨bad, by simp, by rw [b3]; simp⟩
  · exact ⟨_, rfl, rfl⟩
  · exact ⟨_, rfl, by decide +kernel⟩
end LC

namespace LC
open PySem PySem.Spec PyProof.Rows L2 Evl
/-! ### methods -/
def tMet (C : Addr) (m : Str) (sp : Sp) (E : L2.St → XK) (ta : TE) (t : TA) : TE := fun σ H Q => ta σ H fun x H1 => ∃ a dx fs, x = .ref a ∧ H1 a = some (.ins C dx fs) ∧ fs.lookup m = none ∧ t σ H1 fun vs H2 => sp (.ref a :: vs) H2 Q (E σ)
/-- the class at C has a method m that keeps sp -/
def HasM (P : Program) (w : World) (K : Frag) (mg : Str → Option Value) (base : Heap) (CX : CXT) (k : Nat) (C : Addr) (m : Str) (ps : List Str) (sp : Sp) : Prop :=
  ∃ f fd, FnOk P w K mg base CX k f fd ps sp ∧ Binds K fd ps [] ∧ Meth K C m f
/-- the class at C, by the module's name x, is made by an __init__ that keeps sp -/
def HasI (P : Program) (w : World) (K : Frag) (mg : Str → Option Value) (base : Heap) (CX : CXT) (k : Nat) (C : Addr) (x : Str) (ps : List Str) (sp : Sp) : Prop :=
  ∃ f fd, FnOk P w K mg base CX k f fd ps sp ∧ Binds K fd ps [] ∧ Mk K C f ∧ mg x = some (.ref C)
section
variable {X : Cx} {CX : CXT} {k j : Nat} {C : Addr} {x m : Str} {ps : List Str} {sp : Sp} {E : L2.St → XK} {p pos apos : Pos} {e o : Expr} {es : List Expr} {ta : TE} {t : TA}
theorem passA {E : XK} (h : Passes CX X E) : ∀ σ : L2.St, PassesAt CX X σ ((fun _ => E) σ) := fun σ pins H s e s' I c => h pins σ H s e s' I c
theorem pe_hm {pl : Sem Bool} (he : PE X o ta) (c : Cls X.K C) (F : HasM X.prog X.w X.K X.mg X.base CX k C m ps sp) (hr : Room j X.A) (hk : k ≤ j) (hx : ∀ σ, PassesAt CX X σ (E σ)) (ha : PA X (e :: es) t)
    (hst : starEach (e :: es) X.env = (false, eval e X.env) :: starEach es X.env := by rfl) (hpl : (backTo pos (starEach es X.env)).any (·.1) = false := by rfl)
    (ht : eval (.Call (.Attribute o m apos) (e :: es) [] pos) X.env = (do
      let ov ← eval o X.env
      standAt apos.atName
      let (f, first) ← holding [ov] (getMethod ov m pl)
      callWith pos f first (backTo pos (starEach (e :: es) X.env)) (backToKw pos (keywordEach [] X.env))) := by rfl) :
    PE X (.Call (.Attribute o m apos) (e :: es) [] pos) (tMet C m sp E ta t) := by
  obtain ⟨f, fd, G, b, hm⟩ := F
  refine ⟨fun pins s σ H Q I h => ?_⟩
  refine PySem.W.methodCall_KW (pl := pl) (thn (he.run pins s σ H _ I h) fun u s1 ⟨x, H1, I1, rx, a, dx, fs, ex, ea, l, q⟩ => ?_) ht
  subst ex
  obtain rfl : u = Value.ref a := rx
  refine getmeth_ok I1 ea c hm l ?_
  refine PySem.W.callWith_K (first := [.ref a]) (h₀ := X.base) I.ok.mod.kin hm.kp (thn (ha.run pos pins s1 σ H1 _ I1 q) fun us s2 ⟨vs, H2, I2, r, q2⟩ => ⟨I2.kIn, ?_⟩) hst hpl
  exact run_fnS (us := .ref a :: us) (vs := .ref a :: vs) G (hr.mono hk) b (hx σ) I2 (.cons rfl r) q2
theorem pe_hm0 {pl : Sem Bool} (he : PE X o ta) (c : Cls X.K C) (F : HasM X.prog X.w X.K X.mg X.base CX k C m ps sp) (hr : Room j X.A) (hk : k ≤ j) (hx : ∀ σ, PassesAt CX X σ (E σ))
    (ht : eval (.Call (.Attribute o m apos) [] [] pos) X.env = (do
      let ov ← eval o X.env
      standAt apos.atName
      let (f, first) ← holding [ov] (getMethod ov m pl)
      callWith pos f first (backTo pos (starEach [] X.env)) (backToKw pos (keywordEach [] X.env))) := by rfl) :
    PE X (.Call (.Attribute o m apos) [] [] pos) (tMet C m sp E ta tNil) := by
  obtain ⟨f, fd, G, b, hm⟩ := F
  refine ⟨fun pins s σ H Q I h => ?_⟩
  refine PySem.W.methodCall_KW (pl := pl) (thn (he.run pins s σ H _ I h) fun u s1 ⟨x, H1, I1, rx, a, dx, fs, ex, ea, l, q⟩ => ?_) ht
  subst ex
  obtain rfl : u = Value.ref a := rx
  refine getmeth_ok I1 ea c hm l ?_
  exact PySem.W.callWith_K0 (first := [.ref a]) I1.kIn hm.kp (run_fnS (us := [.ref a]) (vs := [.ref a]) G (hr.mono hk) b (hx σ) I1 (.cons rfl .nil) q)
theorem pe_mk {E : XK} (F : HasI X.prog X.w X.K X.mg X.base CX k C x ps sp) (hr : Room j X.A) (hk : k + 1 ≤ j) (hg : Gl X x) (hx : Passes CX X E) (ha : PA X (e :: es) t) (hdb : (x == ("__debug__" : Str)) = false := by decide)
    (he : starEach (e :: es) X.env = (false, eval e X.env) :: starEach es X.env := by rfl) (hpl : (backTo pos (starEach es X.env)).any (·.1) = false := by rfl) : PE X (.Call (.Name x p) (e :: es) [] pos) (tMake C sp [] E t) := by
  obtain ⟨f, fd, G, b, M, m⟩ := F
  exact pe_make M G (hr.mono hk) hg m b .nil hx ha hdb he hpl
theorem pe_mk0 {E : XK} (F : HasI X.prog X.w X.K X.mg X.base CX k C x ps sp) (hr : Room j X.A) (hk : k + 1 ≤ j) (hg : Gl X x) (hx : Passes CX X E) (hdb : (x == ("__debug__" : Str)) = false := by decide) : PE X (.Call (.Name x p) [] [] pos) (tMake C sp [] E tNil) := by
  obtain ⟨f, fd, G, b, M, m⟩ := F
  exact pe_make0 M G (hr.mono hk) hg m b .nil hx hdb
theorem kSetFld {K : Frag} {f : Str} {tv : TE} {value : Expr} {pos' : Pos} (h : X.K = K) (ha : PE X o ta) (hv : PE X value tv) (hs : swapsWith value (some (.Attribute o f pos')) pos.line X.env = pure false := by rfl) : PS X (.Assign [.Attribute o f pos'] value pos) (sFld K ta tv f) := h ▸ ps_fld ha hv hs
theorem kAugFld {K : Frag} {f : Str} {tv : TE} {value : Expr} {pos' : Pos} (h : X.K = K) (ha : PE X o ta) (hv : PE X value tv) : PS X (.AugAssign (.Attribute o f pos') .Add value pos) (sFldAug K ta tv rAdd f) := h ▸ ps_fldaug ha hv in_add
theorem kIndex {K : Frag} (h : X.K = K) : MtR X "list.index" (rIndex K) := h ▸ mt_index
theorem kFld {K : Frag} {f : Str} (h : X.K = K) (he : PE X e ta) (hb : attributeBase e f X.env (eval e X.env) = eval e X.env := by rfl) : PE X (.Attribute e f pos) (tFld K ta f) := h ▸ pe_fld he hb
end
section
variable {P : Program} {w : World} {K : Frag} {mg : Str → Option Value} {base : Heap} {q : Str} {st : Stmt} {f C : Addr} {fd : FuncData} {N ps : List Str} {k : Nat} {sp : Sp} {x m : Str}
theorem hasM_x (F : FnP K x q st f fd) (g : Meth K C m f) (b : Binds K fd ps []) (S : FnScope N ps (defScope st)) (len : ∀ vs H Q E, sp vs H Q E → vs.length = ps.length)
    (hbody : ∀ (cdv : Value) (A : Around) (outer : List Env) (s : Shared) (H : Hp) (vs : List V) (Q : VK) (E : XK), Room k (A.deeper (envOfC q (defScope st) s.heap.objs.size f cdv)) → sp vs H Q E →
      ∃ t, PSs (cxOf (L2.CX P w) P w K mg base N q (defScope st) f cdv A outer s H E) (defBody st) t ∧ t { nx := fun _ H' => Q .non H', rt := Q } (start N vs) H) : HasM P w K mg base (L2.CX P w) (k + 1) C m ps sp :=
  ⟨f, fd, F.ok S len hbody, b, g⟩
theorem hasM_p (F : FnP K x q st f fd) (g : Meth K C m f) (b : Binds K fd ps []) (S : FnScope N ps (defScope st)) (len : ∀ vs H Q E, sp vs H Q E → vs.length = ps.length)
    (hbody : ∀ (cdv : Value) (A : Around) (outer : List Env) (s : Shared) (H : Hp) (vs : List V) (Q : VK) (E : XK), Room k (A.deeper (envOfC q (defScope st) s.heap.objs.size f cdv)) → sp vs H Q E →
      ∃ t, PSs (cxOf CX0 P w K mg base N q (defScope st) f cdv A outer s H E).nox (defBody st) t ∧ t { nx := fun _ H' => Q .non H', rt := Q } (start N vs) H) : HasM P w K mg base CX0 (k + 1) C m ps sp :=
  ⟨f, fd, F.ok S len (fun cdv A outer s H vs Q E hr h => by
    obtain ⟨t, ht, r⟩ := hbody cdv A outer s H vs Q E hr h
    exact ⟨t, PSs.nox ht, r⟩), b, g⟩
theorem hasI_p (F : FnP K "__init__" q st f fd) (M : Mk K C f) (g : mg x = some (.ref C)) (b : Binds K fd ps []) (S : FnScope N ps (defScope st)) (len : ∀ vs H Q E, sp vs H Q E → vs.length = ps.length)
    (hbody : ∀ (cdv : Value) (A : Around) (outer : List Env) (s : Shared) (H : Hp) (vs : List V) (Q : VK) (E : XK), Room k (A.deeper (envOfC q (defScope st) s.heap.objs.size f cdv)) → sp vs H Q E →
      ∃ t, PSs (cxOf CX0 P w K mg base N q (defScope st) f cdv A outer s H E).nox (defBody st) t ∧ t { nx := fun _ H' => Q .non H', rt := Q } (start N vs) H) : HasI P w K mg base CX0 (k + 1) C x ps sp :=
  ⟨f, fd, F.ok S len (fun cdv A outer s H vs Q E hr h => by
    obtain ⟨t, ht, r⟩ := hbody cdv A outer s H vs Q E hr h
    exact ⟨t, PSs.nox ht, r⟩), b, M, g⟩
end
/-! ### a notebook's state -/
structure RecS where
  lines : Src
  asked : List (Str × Option Int)
  shown : List Int
  sets : List (Str × Int)
  why : Option (Str × Option Str)
structure CellS where
  src : Src
  count : Nat
  struck : Bool
  recd : Option RecS
structure NbS where
  row : List Nat
  cell : Nat → CellS
  after : Nat
def encO : Option Int → PyData
  | none => .none
  | some i => .int i
def encN : Option Str → PyData
  | none => .none
  | some x => .str x
def encAsk (p : Str × Option Int) : PyData := .tuple [.str p.1, encO p.2]
def encWhy : Option (Str × Option Str) → PyData
  | none => .none
  | some (w, x) => .tuple [.str w, encN x]
structure NbC where
  N : Addr
  C : Addr
  R : Addr
def RecAt (K : Frag) (T : NbC) (B : Hp) (v : V) : Option RecS → Prop
  | none => v = .non
  | some r => ∃ p dx lv av sv dv wv, v = .ref p ∧ B p = some (.ins T.R dx [("lines", lv), ("asked", av), ("shown", sv), ("sets", .ref dv), ("why", wv)]) ∧ Dt K B lv (encS r.lines) ∧ Dt K B av (.list (r.asked.map encAsk)) ∧
      Dt K B sv (.list (r.shown.map PyData.int)) ∧ B dv = some (.dK (r.sets.map fun q => ((Sum.inr q.1 : Key), V.int q.2))) ∧ Dt K B wv (encWhy r.why)
def CellAt (K : Frag) (T : NbC) (B H : Hp) (p : Addr) (c : CellS) : Prop := ∃ dx lv rv, H p = some (.ins T.C dx [("lines", lv), ("count", .int (c.count : Int)), ("struck", .bl c.struck), ("record", rv)]) ∧ Dt K B lv (encS c.src) ∧ RecAt K T B rv c.recd
structure NbL (K : Frag) (T : NbC) (M : Addr → Prop) (B H : Hp) (nb : Addr) (st : NbS) (dn c r : Addr) (kvs : List (Key × V)) (ad : Nat → Addr) : Prop where
  x : Ex B H
  m : ∀ a, M a → B a = none ∧ H a ≠ none
  hn : H nb = some (.ins T.N dn [("cells", .ref c), ("row", .ref r), ("after", .int (st.after : Int))])
  hc : H c = some (.dK kvs)
  hr : H r = some (.lst (st.row.map fun n : Nat => V.int (n : Int)))
  mn : M nb
  mc : M c
  mr : M r
  kin : ∀ n ∈ st.row, valV kvs (.inl (n : Int)) = some (.ref (ad n))
  kout : ∀ i : Int, (∀ n ∈ st.row, (n : Int) ≠ i) → valV kvs (.inl i) = none
  kl : kvs.length ≤ st.after
  mad : ∀ n ∈ st.row, M (ad n)
  cells : ∀ n ∈ st.row, CellAt K T B H (ad n) (st.cell n)
  inj : ∀ n ∈ st.row, ∀ m ∈ st.row, ad n = ad m → n = m
/-- what is so of every state -/
structure NbG (st : NbS) : Prop where
  good : ∀ n ∈ st.row, goodS (st.cell n).src = true
  lt : ∀ n ∈ st.row, n < st.after
  nd : st.row.Nodup
  len : st.row.length ≤ 30
  few : st.after ≤ 5000
  cnt : ∀ n ∈ st.row, (st.cell n).count ≤ 5000
def NB (K : Frag) (T : NbC) (M : Addr → Prop) (B H : Hp) (nb : Addr) (st : NbS) : Prop := ∃ dn c r kvs ad, NbL K T M B H nb st dn c r kvs ad
/-- what may change: M; new things -/
structure Fr (M M' : Addr → Prop) (B H H' B' : Hp) : Prop where
  fr : ∀ a o, H a = some o → ¬ M a → H' a = some o
  xd : Ex B B'
  d2 : Ex B' H'
  nw : ∀ a, B a = none → H a ≠ none → B' a = none
  mm : ∀ a, M' a → M a ∨ H a = none
  sub : ∀ a, M a → M' a
  stay : ∀ a, H a ≠ none → H' a ≠ none
section
variable {K : Frag} {T : NbC} {M M' M'' : Addr → Prop} {B B' B'' H H' H'' : Hp} {nb : Addr} {st : NbS}
theorem RecAt.mono (e : Ex B B') {v : V} : ∀ {r : Option RecS}, RecAt K T B v r → RecAt K T B' v r
  | none, h => h
  | some r, ⟨p, dx, lv, av, sv, dv, wv, h1, h2, h3, h4, h5, h6, h7⟩ => ⟨p, dx, lv, av, sv, dv, wv, h1, e _ _ h2, dp_ex e _ _ h3, dp_ex e _ _ h4, dp_ex e _ _ h5, e _ _ h6, dp_ex e _ _ h7⟩
theorem CellAt.mono (e : Ex B B') {p : Addr} {c : CellS} (h : CellAt K T B H p c) (hp : ∀ o, H p = some o → H' p = some o) : CellAt K T B' H' p c := by
  obtain ⟨dx, lv, rv, h1, h2, h3⟩ := h
  exact ⟨dx, lv, rv, hp _ h1, dp_ex e _ _ h2, h3.mono e⟩
theorem Fr.of (g : Gr B H H' B') : Fr M M B H H' B' := ⟨fun a o h _ => g.ex a o h, g.xd, g.d2, g.fr, fun a h => .inl h, fun a h => h, fun a h => ne_none g.ex h⟩
theorem Fr.trans (x : Fr M M' B H H' B') (y : Fr M' M'' B' H' H'' B'') : Fr M M'' B H H'' B'' := by
  refine ⟨fun a o h n => y.fr a o (x.fr a o h n) fun z => ?_, x.xd.trans y.xd, y.d2, fun a hb hh => y.nw a (x.nw a hb hh) (x.stay a hh), fun a h => ?_, fun a h => y.sub a (x.sub a h), fun a h => y.stay a (x.stay a h)⟩
  · rcases x.mm a z with z | z
    · exact n z
    · rw [h] at z
      cases z
  · rcases y.mm a h with z | z
    · exact x.mm a z
    · right
      cases q : H a with
      | none => rfl
      | some o => exact absurd z (x.stay a (by rw [q]; exact fun z => nomatch z))
/-- another notebook, apart from what changed -/
theorem NB.apart {N : Addr → Prop} (h : NB K T N B H nb st) (f : Fr M M' B H H' B') (hd : ∀ a, N a → ¬ M a) : NB K T N B' H' nb st := by
  obtain ⟨dn, c, r, kvs, ad, h⟩ := h
  have go : ∀ a o, N a → H a = some o → H' a = some o := fun a o n e => f.fr a o e (hd a n)
  exact ⟨dn, c, r, kvs, ad, f.d2, fun a n => ⟨f.nw a (h.m a n).1 (h.m a n).2, f.stay a (h.m a n).2⟩, go _ _ h.mn h.hn, go _ _ h.mc h.hc, go _ _ h.mr h.hr, h.mn, h.mc, h.mr, h.kin, h.kout, h.kl, h.mad, fun n hn => (h.cells n hn).mono f.xd fun o => go _ _ (h.mad n hn), h.inj⟩
theorem NB.gr (h : NB K T M B H nb st) (g : Gr B H H' B') : NB K T M B' H' nb st := h.apart (M := fun _ => False) (M' := fun _ => False) (Fr.of g) fun _ _ z => z
theorem NB.ex (h : NB K T M B H nb st) (e : Ex H H') : NB K T M B H' nb st := h.gr (Gr.base (by obtain ⟨_, _, _, _, _, h⟩ := h; exact h.x) e)
theorem NB.x (h : NB K T M B H nb st) : Ex B H := by obtain ⟨_, _, _, _, _, h⟩ := h; exact h.x
end
/-- the cell n of the notebook stands at p -/
def CellIs (H : Hp) (nb : Addr) (n : Nat) (p : Addr) : Prop := ∃ C dn c r i kvs, H nb = some (.ins C dn [("cells", .ref c), ("row", .ref r), ("after", .int i)]) ∧ H c = some (.dK kvs) ∧ valV kvs (.inl (n : Int)) = some (.ref p)
/-- cells stand where they stood -/
def Kept (H H' : Hp) (nb : Addr) (row : List Nat) : Prop := ∀ n ∈ row, ∀ p, CellIs H nb n p → CellIs H' nb n p
section
variable {K : Frag} {T : NbC} {M M' : Addr → Prop} {B B' H H' : Hp} {nb dn c r dn' c' r' : Addr} {st st' : NbS} {kvs kvs' : List (Key × V)} {ad ad' : Nat → Addr} {n : Nat} {p : Addr}
theorem NbL.cellIs (L : NbL K T M B H nb st dn c r kvs ad) (hn : n ∈ st.row) : CellIs H nb n (ad n) := ⟨_, _, _, _, _, _, L.hn, L.hc, L.kin n hn⟩
theorem NbL.adOf (L : NbL K T M B H nb st dn c r kvs ad) (h : CellIs H nb n p) : n ∈ st.row ∧ p = ad n := by
  obtain ⟨C, dn2, c2, r2, i2, kvs2, h1, h2, h3⟩ := h
  rw [L.hn] at h1
  cases h1
  rw [L.hc] at h2
  cases h2
  by_cases hn : n ∈ st.row
  · rw [L.kin n hn] at h3
    cases h3
    exact ⟨hn, rfl⟩
  · rw [L.kout n fun m hm e => hn (by have : m = n := by omega
                                      rw [← this]; exact hm)] at h3
    cases h3
theorem Kept.of (L : NbL K T M B H nb st dn c r kvs ad) (L' : NbL K T M' B' H' nb st' dn' c' r' kvs' ad') (h : ∀ n ∈ st'.row, n ∈ st.row → ad' n = ad n) : Kept H H' nb st'.row := fun n hn p hp => by
  obtain ⟨h1, rfl⟩ := L.adOf hp
  rw [← h n hn h1]
  exact L'.cellIs hn
theorem Kept.ex {row : List Nat} (e : Ex H H') : Kept H H' nb row := fun n hn p ⟨C, dn, c, r, i, kvs, h1, h2, h3⟩ => ⟨C, dn, c, r, i, kvs, e _ _ h1, e _ _ h2, h3⟩
end
/-- a promise about a notebook: R tells what comes of it, or which class is raised -/
def spNb (K : Frag) (T : NbC) (R : NbS → List PyData → (PyData ⊕ Addr) → NbS → Prop) : Sp := fun vs H Q E => ∃ M B nb st ws ds o st', vs = .ref nb :: ws ∧ NB K T M B H nb st ∧ NbG st ∧ DtAll K B ws ds ∧ R st ds o st' ∧
  (∀ d, o = .inl d → ∀ v H' B' M', Fr M M' B H H' B' → NB K T M' B' H' nb st' → Kept H H' nb st'.row → Dt K B' v d → Q v H') ∧ (∀ c, o = .inr c → ∀ H' B' M', Fr M M' B H H' B' → NB K T M' B' H' nb st' → E (.ref c) none H')
theorem Kept.trans {H H' H'' : Hp} {nb : Addr} {row row' : List Nat} (x : Kept H H' nb row) (y : Kept H' H'' nb row') (h : ∀ n ∈ row', n ∈ row) : Kept H H'' nb row' := fun n hn p hp => y n hn p (x n (h n hn) p hp)
/-- the classes' facts -/
structure NbT (K : Frag) (T : NbC) : Prop where
  cN : Cls K T.N
  cC : Cls K T.C
  cR : Cls K T.R
  nN : ∀ {f : Str}, f ∈ (["cells", "row", "after"] : List Str) → NoAttr K T.N f
  nC : ∀ {f : Str}, f ∈ (["lines", "count", "struck", "record"] : List Str) → NoAttr K T.C f
  nR : ∀ {f : Str}, f ∈ (["lines", "asked", "shown", "sets", "why"] : List Str) → NoAttr K T.R f
end LC

namespace LC
open PySem PySem.Spec PyProof.Rows L2 Evl
/-! ### readings: attributes, dicts -/
section
variable {K : Frag} {σ : L2.St} {H : Hp} {ta td ty te tv : TE} {D : Ends} {a C dx : Addr} {fs : List (Str × V)} {f : Str} {v y : V} {kvs : List (Key × V)} {k : Key}
theorem ev_fld (h : Ev ta σ H (.ref a)) (ho : H a = some (.ins C dx fs)) (c : Cls K C) (n : NoAttr K C f) (l : fs.lookup f = some v) : Ev (tFld K ta f) σ H v := fun H1 e Q q => h H1 e _ fun H2 e2 => ⟨a, C, dx, fs, v, rfl, e2 _ _ (e _ _ ho), c, n, l, q H2 e2⟩
theorem ev_dget (hd : Ev td σ H (.ref a)) (hy : Ev ty σ H (kV k)) (ha : H a = some (.dK kvs)) (hv : valV kvs k = some v) : Ev (tDGet td ty) σ H v := fun H1 e Q q =>
  hd H1 e _ fun H2 e2 => hy H2 (e.trans e2) _ fun H3 e3 => ⟨a, v, rfl, hv ▸ DGet.k (k := k) (((e.trans e2).trans e3) _ _ ha), q H3 (e2.trans e3)⟩
theorem ev_din (hy : Ev ty σ H (kV k)) (hd : Ev td σ H (.ref a)) (ha : H a = some (.dK kvs)) : Ev (tDIn ty td) σ H (.bl (valV kvs k).isSome) := fun H1 e Q q =>
  hy H1 e _ fun H2 e2 => hd H2 (e.trans e2) _ fun H3 e3 => ⟨a, _, rfl, DGet.k (k := k) (((e.trans e2).trans e3) _ _ ha), q H3 (e2.trans e3)⟩
theorem ev_dnotin (hy : Ev ty σ H (kV k)) (hd : Ev td σ H (.ref a)) (ha : H a = some (.dK kvs)) : Ev (tDNotIn ty td) σ H (.bl (!(valV kvs k).isSome)) := fun H1 e Q q =>
  hy H1 e _ fun H2 e2 => hd H2 (e.trans e2) _ fun H3 e3 => ⟨a, _, rfl, DGet.k (k := k) (((e.trans e2).trans e3) _ _ ha), q H3 (e2.trans e3)⟩
theorem s_fld (hv : Ev tv σ H y) (ha : Ev ta σ H (.ref a)) (ho : H a = some (.ins C dx fs)) (c : Cls K C) (n : NoAttr K C f) (hl : fs.length < 1000) (kk : ∀ H2, Ex H H2 → D.nx σ (upd H2 a (.ins C dx (putF f y fs)))) : sFld K ta tv f D σ H :=
  hv H (Ex.refl H) _ fun H1 e1 => ha H1 e1 _ fun H2 e2 => ⟨a, C, dx, fs, rfl, e2 _ _ (e1 _ _ ho), c, n, hl, kk H2 (e1.trans e2)⟩
theorem s_fldaug {i j : Int} (ha : Ev ta σ H (.ref a)) (ho : H a = some (.ins C dx fs)) (c : Cls K C) (n : NoAttr K C f) (l : fs.lookup f = some (.int i)) (hv : Ev tv σ H (.int j)) (hl : fs.length < 1000) (kk : ∀ H2, Ex H H2 → D.nx σ (upd H2 a (.ins C dx (putF f (.int (i + j)) fs)))) : sFldAug K ta tv rAdd f D σ H :=
  ha H (Ex.refl H) _ fun H1 e1 => ⟨a, C, dx, fs, .int i, rfl, e1 _ _ ho, c, n, l, hv H1 e1 _ fun H2 e2 => ⟨i, j, rfl, rfl, dx, fs, e2 _ _ (e1 _ _ ho), hl, kk H2 (e1.trans e2)⟩⟩
end
section
variable {K : Frag} {T : NbC} {M : Addr → Prop} {B H : Hp} {nb dn c r : Addr} {st : NbS} {kvs : List (Key × V)} {ad : Nat → Addr} {σ : L2.St} {ta ty te : TE} {n : Nat}
theorem NbL.cellsE (L : NbL K T M B H nb st dn c r kvs ad) (U : NbT K T) (h : Ev ta σ H (.ref nb)) : Ev (tFld K ta "cells") σ H (.ref c) := ev_fld h L.hn U.cN (U.nN (by decide)) rfl
theorem NbL.rowE (L : NbL K T M B H nb st dn c r kvs ad) (U : NbT K T) (h : Ev ta σ H (.ref nb)) : Ev (tFld K ta "row") σ H (.ref r) := ev_fld h L.hn U.cN (U.nN (by decide)) rfl
theorem NbL.afterE (L : NbL K T M B H nb st dn c r kvs ad) (U : NbT K T) (h : Ev ta σ H (.ref nb)) : Ev (tFld K ta "after") σ H (.int (st.after : Int)) := ev_fld h L.hn U.cN (U.nN (by decide)) rfl
theorem NbL.atE (L : NbL K T M B H nb st dn c r kvs ad) (U : NbT K T) (h : Ev ta σ H (.ref nb)) (hy : Ev ty σ H (.int (n : Int))) (hn : n ∈ st.row) : Ev (tDGet (tFld K ta "cells") ty) σ H (.ref (ad n)) := ev_dget (k := .inl (n : Int)) (L.cellsE U h) hy L.hc (L.kin n hn)
theorem NbL.countE (L : NbL K T M B H nb st dn c r kvs ad) (U : NbT K T) (hn : n ∈ st.row) (h : Ev te σ H (.ref (ad n))) : Ev (tFld K te "count") σ H (.int ((st.cell n).count : Int)) := by
  obtain ⟨dx, lv, rv, h1, h2, h3⟩ := L.cells n hn
  exact ev_fld h h1 U.cC (U.nC (by decide)) rfl
theorem NbL.struckE (L : NbL K T M B H nb st dn c r kvs ad) (U : NbT K T) (hn : n ∈ st.row) (h : Ev te σ H (.ref (ad n))) : Ev (tFld K te "struck") σ H (.bl (st.cell n).struck) := by
  obtain ⟨dx, lv, rv, h1, h2, h3⟩ := L.cells n hn
  exact ev_fld h h1 U.cC (U.nC (by decide)) rfl
theorem NbL.linesE (L : NbL K T M B H nb st dn c r kvs ad) (U : NbT K T) (hn : n ∈ st.row) (h : Ev te σ H (.ref (ad n))) : ∃ lv, Ev (tFld K te "lines") σ H lv ∧ Dt K B lv (encS (st.cell n).src) := by
  obtain ⟨dx, lv, rv, h1, h2, h3⟩ := L.cells n hn
  exact ⟨lv, ev_fld h h1 U.cC (U.nC (by decide)) rfl, h2⟩
theorem NbL.recE (L : NbL K T M B H nb st dn c r kvs ad) (U : NbT K T) (hn : n ∈ st.row) (h : Ev te σ H (.ref (ad n))) : ∃ rv, Ev (tFld K te "record") σ H rv ∧ RecAt K T B rv (st.cell n).recd := by
  obtain ⟨dx, lv, rv, h1, h2, h3⟩ := L.cells n hn
  exact ⟨rv, ev_fld h h1 U.cC (U.nC (by decide)) rfl, h3⟩
theorem NbL.dtRow (L : NbL K T M B H nb st dn c r kvs ad) : Dt K H (.ref r) (.list (st.row.map fun n : Nat => PyData.int (n : Int))) := by
  refine .lst L.hr ?_
  have := dt_ints (K := K) (H := H) (st.row.map fun n : Nat => (n : Int))
  rw [List.map_map, List.map_map] at this
  exact this
theorem NbL.ex {H' : Hp} (L : NbL K T M B H nb st dn c r kvs ad) (e : Ex H H') : NbL K T M B H' nb st dn c r kvs ad :=
  ⟨L.x.trans e, fun a h => ⟨(L.m a h).1, ne_none e (L.m a h).2⟩, e _ _ L.hn, e _ _ L.hc, e _ _ L.hr, L.mn, L.mc, L.mr, L.kin, L.kout, L.kl, L.mad, fun n hn => (L.cells n hn).mono (Ex.refl _) fun o => e _ _, L.inj⟩
theorem NbL.toNB (L : NbL K T M B H nb st dn c r kvs ad) : NB K T M B H nb st := ⟨dn, c, r, kvs, ad, L⟩
theorem NbL.gr {B' H' : Hp} (L : NbL K T M B H nb st dn c r kvs ad) (g : Gr B H H' B') : NbL K T M B' H' nb st dn c r kvs ad :=
  ⟨g.d2, fun a h => ⟨g.fr a (L.m a h).1 (L.m a h).2, ne_none g.ex (L.m a h).2⟩, g.ex _ _ L.hn, g.ex _ _ L.hc, g.ex _ _ L.hr, L.mn, L.mc, L.mr, L.kin, L.kout, L.kl, L.mad, fun n hn => (L.cells n hn).mono g.xd fun o => g.ex _ _, L.inj⟩
/-- a write within M -/
theorem fr_upd {a : Addr} {o : HO} (x : Ex B H) (hm : M a) (hb : B a = none) (hh : H a ≠ none) : Fr M M B H (upd H a o) B := by
  refine ⟨fun b u h n => ?_, Ex.refl B, ex_upd x hb, fun b h _ => h, fun b h => .inl h, fun b h => h, fun b h => ?_⟩
  · rw [upd_ne (fun z : b = a => n (by rw [z]; exact hm))]
    exact h
  · by_cases z : b = a
    · rw [z, upd_same]
      exact fun z => nomatch z
    · rw [upd_ne z]
      exact h
end
/-! ### which data are cells -/
def isCellD (st : NbS) : PyData → Bool
  | .int i => st.row.any fun n => decide ((n : Int) = i)
  | _ => false
theorem isCell_iff {st : NbS} {d : PyData} : isCellD st d = true ↔ ∃ n ∈ st.row, d = .int (n : Int) := by
  cases d with
  | int i =>
    unfold isCellD
    rw [List.any_eq_true]
    constructor
    · rintro ⟨n, h1, h2⟩
      exact ⟨n, h1, by rw [of_decide_eq_true h2]⟩
    · rintro ⟨n, h1, h2⟩
      exact ⟨n, h1, decide_eq_true (PyData.int.inj h2).symm⟩
  | _ =>
    constructor
    · intro h; cases h
    · rintro ⟨n, _, h⟩; cases h
theorem NbL.isSome {K : Frag} {T : NbC} {M : Addr → Prop} {B H : Hp} {nb dn c r : Addr} {st : NbS} {kvs : List (Key × V)} {ad : Nat → Addr} (L : NbL K T M B H nb st dn c r kvs ad) (i : Int) : (valV kvs (.inl i)).isSome = isCellD st (.int i) := by
  cases h : isCellD st (.int i) with
  | true =>
    obtain ⟨n, hn, e⟩ := isCell_iff.mp h
    cases e
    rw [L.kin n hn]
    rfl
  | false =>
    rw [L.kout i fun n hn e => ?_]
    · rfl
    · have := isCell_iff.mpr ⟨n, hn, by rw [e]⟩
      rw [h] at this
      cases this
theorem cell_within {st : NbS} (G : NbG st) {d : PyData} (h : isCellD st d = true) : isWithin d 0 (st.after : Int) = true := by
  obtain ⟨n, hn, rfl⟩ := isCell_iff.mp h
  have := G.lt n hn
  unfold isWithin
  rw [Bool.and_eq_true]
  exact ⟨decide_eq_true (by omega), decide_eq_true (by omega)⟩
/-! ### promises -/
def spNbI (K : Frag) (T : NbC) : Sp := fun vs H Q _ => ∃ x dx, vs = [.ref x] ∧ H x = some (.ins T.N dx []) ∧ ∀ c r H', H c = none → H r = none → c ≠ r → H' x = some (.ins T.N dx [("cells", .ref c), ("row", .ref r), ("after", .int 0)]) → H' c = some (.dK []) → H' r = some (.lst []) → (∀ a o, a ≠ x → H a = some o → H' a = some o) → Q .non H'
def spCellI (K : Frag) (T : NbC) : Sp := fun vs H Q _ => ∃ x dx v, vs = [.ref x, v] ∧ H x = some (.ins T.C dx []) ∧ ∀ H', H' x = some (.ins T.C dx [("lines", v), ("count", .int 0), ("struck", .bl false), ("record", .non)]) → (∀ a o, a ≠ x → H a = some o → H' a = some o) → Q .non H'
/-- a promise of one that only looks -/
def spNq (K : Frag) (T : NbC) (R : NbS → List PyData → (PyData ⊕ Addr) → Prop) : Sp := fun vs H Q E => ∃ M B nb st ws ds o, vs = .ref nb :: ws ∧ NB K T M B H nb st ∧ NbG st ∧ DtAll K B ws ds ∧ R st ds o ∧ (∀ d, o = .inl d → Rt K B H d Q) ∧ (∀ c, o = .inr c → ∀ H', Ex H H' → E (.ref c) none H')
def R_look_cell (cB : Addr) (st : NbS) (ds : List PyData) (o : PyData ⊕ Addr) : Prop := ∃ d, ds = [d] ∧ o = if isCellD st d then .inl .none else .inr cB
def R_look_place (cB : Addr) (st : NbS) (ds : List PyData) (o : PyData ⊕ Addr) : Prop := ∃ d i, ds = [d, .int i] ∧ o = if isWithin d 0 i then .inl .none else .inr cB
/-! ### readings with a part for the data -/
def EvB (K : Frag) (te : TE) (σ : L2.St) (B H : Hp) (d : PyData) : Prop := ∀ H1, Ex H H1 → ∀ Q : VK, (∀ v H2 Hd, Gr B H1 H2 Hd → Dt K Hd v d → Q v H2) → te σ H1 Q
def EvBs (K : Frag) (ta : TA) (σ : L2.St) (B H : Hp) (ds : List PyData) : Prop := ∀ H1, Ex H H1 → ∀ Q : List V → Hp → Prop, (∀ vs H2 Hd, Gr B H1 H2 Hd → DtAll K Hd vs ds → Q vs H2) → ta σ H1 Q
section
variable {K : Frag} {σ : L2.St} {B H H' : Hp} {te ta tb : TE} {d e : PyData} {targs : TA} {ds : List PyData} {D : Ends}
theorem EvD.toB (h : EvD K te σ B d) (x : Ex B H) : EvB K te σ B H d := fun H1 e Q q => h H1 (x.trans e) Q q
theorem EvB.toD (h : EvB K te σ H H d) : EvD K te σ H d := h
theorem EvB.ex (h : EvB K te σ B H d) (x : Ex H H') : EvB K te σ B H' d := fun H1 e Q q => h H1 (x.trans e) Q q
theorem evb_v {v : V} (x : Ex B H) (h : Ev te σ H v) (hd : Dt K B v d) : EvB K te σ B H d := fun H1 e Q q => h H1 e Q fun H2 e2 => q v H2 B (Gr.base (x.trans e) e2) hd
theorem evb_i {i : Int} (x : Ex B H) (h : Ev te σ H (.int i)) : EvB K te σ B H (.int i) := evb_v x h (.int i)
theorem evb_b {b : Bool} (x : Ex B H) (h : Ev te σ H (.bl b)) : EvB K te σ B H (.bool b) := evb_v x h (.bl b)
theorem evb_is {d' : PyData} (h : EvB K te σ B H d) (e : d = d') : EvB K te σ B H d' := e ▸ h
theorem evB_int {i : Int} (h : EvB K te σ B H (.int i)) : Ev te σ H (.int i) := fun H1 e Q q => h H1 e Q fun v H2 Hd g hd => by rw [dp_int hd]; exact q H2 g.ex
theorem evB_str {x : Str} (h : EvB K te σ B H (.str x)) : Ev te σ H (.str x) := fun H1 e Q q => h H1 e Q fun v H2 Hd g hd => by rw [dp_str hd]; exact q H2 g.ex
theorem evB_bl {b : Bool} (h : EvB K te σ B H (.bool b)) : Ev te σ H (.bl b) := fun H1 e Q q => h H1 e Q fun v H2 Hd g hd => by rw [dp_bool hd]; exact q H2 g.ex
theorem ebs_nil (x : Ex B H) : EvBs K tNil σ B H [] := fun H1 e _ q => q [] H1 B (Gr.base (x.trans e) (Ex.refl H1)) .nil
theorem ebs_cons {tr : TA} (h : EvB K te σ B H d) (hr : EvBs K tr σ B H ds) : EvBs K (tCons te tr) σ B H (d :: ds) := fun H1 e _ q =>
  h H1 e _ fun v H2 A g hd => hr H2 (e.trans g.ex) _ fun vs H3 C g2 hds => q (v :: vs) H3 _ (g.join g2) (.cons (dp_ex join_l _ _ hd) (dpAll_ex (join_r (g.d2.trans g2.ex) g2.d2) _ _ hds))
theorem evb_tup (h : EvBs K targs σ B H ds) (hl : ds.length ≤ 100000) : EvB K (tTup targs) σ B H (.tuple ds) := fun H1 e _ q =>
  h H1 e _ fun vs H2 Hd g hds => ⟨by rw [dpAll_len hds]; exact sz_of hl, fun p hp => q (.ref p) _ _ (g.new _ hp) (.tup (st_of upd_same) (dpAll_ex (Ex.new (fresh_back g.d2 hp)) _ _ hds))⟩
theorem evb_lst (h : EvBs K targs σ B H ds) (hl : ds.length ≤ 100000) : EvB K (tLst targs) σ B H (.list ds) := fun H1 e _ q =>
  h H1 e _ fun vs H2 Hd g hds => ⟨by rw [dpAll_len hds]; exact sz_of hl, fun p hp => q (.ref p) _ _ (g.new _ hp) (.lst upd_same (dpAll_ex (Ex.new (fresh_back g.d2 hp)) _ _ hds))⟩
theorem s_asgB {i : Nat} (h : EvB K te σ B H d) (k : ∀ v H1 Hd, Gr B H H1 Hd → Dt K Hd v d → D.nx (σ.set i (some v)) H1) : tAsg te (gName i) D σ H := h H (Ex.refl H) _ k
theorem s_retB (h : EvB K te σ B H d) (k : ∀ v H1 Hd, Gr B H H1 Hd → Dt K Hd v d → D.rt v H1) : tRet te D σ H := h H (Ex.refl H) _ k
/-- list(xs) of a list that may change -/
theorem evb_copy {a : Addr} {xs : List V} (x : Ex B H) (h : Ev te σ H (.ref a)) (ha : H a = some (.lst xs)) (hd : DtAll K B xs ds) : EvB K (tCB (rLstU K) (tCons te tNil)) σ B H (.list ds) := fun H1 e Q q =>
  h H1 e _ fun H2 e2 => ⟨a, xs, rfl, .inl (sq_of (e2 _ _ (e _ _ ha))), fun l hl => q _ _ _ ((Gr.base (x.trans e) e2).new _ hl) (.lst upd_same (dpAll_ex (Ex.new (fresh_back ((x.trans e).trans e2) hl)) _ _ hd))⟩
end
section
variable {K : Frag} {T : NbC} {M : Addr → Prop} {B H : Hp} {nb : Addr} {st st' : NbS} {σ : L2.St} {ta : TE} {targs : TA} {ds : List PyData} {d : PyData} {o : PyData ⊕ Addr} {E : L2.St → XK} {m : Str} {D : Ends} {Q : VK}
/-- a method's name is no attribute of a notebook -/
def NoF (m : Str) : Prop := ∀ a b c : V, (([("cells", a), ("row", b), ("after", c)] : List (Str × V)).lookup m) = none
theorem t_metK {R : NbS → List PyData → (PyData ⊕ Addr) → NbS → Prop} (nf : NoF m) (hs : Ev ta σ H (.ref nb)) (hN : NB K T M B H nb st) (hG : NbG st) (ha : EvBs K targs σ B H ds) (hf : R st ds o st')
    (k1 : ∀ d, o = .inl d → ∀ v H' B' M', Fr M M' B H H' B' → NB K T M' B' H' nb st' → Kept H H' nb st'.row → Dt K B' v d → Q v H') (k2 : ∀ c, o = .inr c → ∀ H' B' M', Fr M M' B H H' B' → NB K T M' B' H' nb st' → E σ (.ref c) none H') : tMet T.N m (spNb K T R) E ta targs σ H Q := by
  refine hs H (Ex.refl H) _ fun H1 e1 => ?_
  obtain ⟨dn, c, r, kvs, ad, L⟩ := hN
  refine ⟨nb, dn, _, rfl, e1 _ _ L.hn, nf _ _ _, ?_⟩
  refine ha H1 e1 _ fun vs H2 Hd g hds => ?_
  have g2 : Gr B H H2 Hd := g.after e1
  exact ⟨M, Hd, nb, st, vs, ds, o, st', rfl, (L.gr g2).toNB, hG, hds, hf, fun d e v H' B' M' f hN kp => k1 d e v H' B' M' ((Fr.of g2).trans f) hN ((Kept.ex (row := st'.row) g2.ex).trans kp fun _ h => h), fun c e H' B' M' f => k2 c e H' B' M' ((Fr.of g2).trans f)⟩
theorem t_met {R : NbS → List PyData → (PyData ⊕ Addr) → NbS → Prop} (nf : NoF m) (hs : Ev ta σ H (.ref nb)) (hN : NB K T M B H nb st) (hG : NbG st) (ha : EvBs K targs σ B H ds) (hf : R st ds o st')
    (k1 : ∀ d, o = .inl d → ∀ v H' B' M', Fr M M' B H H' B' → NB K T M' B' H' nb st' → Dt K B' v d → Q v H') (k2 : ∀ c, o = .inr c → ∀ H' B' M', Fr M M' B H H' B' → NB K T M' B' H' nb st' → E σ (.ref c) none H') : tMet T.N m (spNb K T R) E ta targs σ H Q :=
  t_metK nf hs hN hG ha hf (fun d e v H' B' M' f hN _ => k1 d e v H' B' M' f hN) k2
theorem t_q {R : NbS → List PyData → (PyData ⊕ Addr) → Prop} (nf : NoF m) (hs : Ev ta σ H (.ref nb)) (hN : NB K T M B H nb st) (hG : NbG st) (ha : EvBs K targs σ B H ds) (hf : R st ds o)
    (k1 : ∀ d, o = .inl d → Rt K B H d Q) (k2 : ∀ c, o = .inr c → ∀ H', Ex H H' → E σ (.ref c) none H') : tMet T.N m (spNq K T R) E ta targs σ H Q := by
  refine hs H (Ex.refl H) _ fun H1 e1 => ?_
  obtain ⟨dn, c, r, kvs, ad, L⟩ := hN
  refine ⟨nb, dn, _, rfl, e1 _ _ L.hn, nf _ _ _, ?_⟩
  refine ha H1 e1 _ fun vs H2 Hd g hds => ?_
  have g2 : Gr B H H2 Hd := g.after e1
  exact ⟨M, Hd, nb, st, vs, ds, o, rfl, (L.gr g2).toNB, hG, hds, hf, fun d e v H' B' f => k1 d e v H' B' (g2.seq f), fun c e H' e' => k2 c e H' (g2.ex.trans e')⟩
theorem evb_q {R : NbS → List PyData → (PyData ⊕ Addr) → Prop} (nf : NoF m) (hs : Ev ta σ H (.ref nb)) (hN : NB K T M B H nb st) (hG : NbG st) (ha : EvBs K targs σ B H ds) (hf : R st ds (.inl d)) : EvB K (tMet T.N m (spNq K T R) E ta targs) σ B H d := fun H1 e Q q =>
  t_q nf (fun H2 e2 => hs H2 (e.trans e2)) (hN.ex e) hG (fun H2 e2 => ha H2 (e.trans e2)) hf (fun d' e' => by cases e'; exact q) fun c e' => by cases e'
end
end LC

namespace LC
open PySem PySem.Spec PyProof.Rows L2 Evl
section
variable {K : Frag} {T : NbC} {M : Addr → Prop} {B H : Hp} {nb : Addr} {st st' : NbS} {σ : L2.St} {ta te : TE} {targs : TA} {ds : List PyData} {d : PyData} {o : PyData ⊕ Addr} {E : L2.St → XK} {m : Str} {D : Ends} {Q : VK} {i : Nat}
theorem s_q {R : NbS → List PyData → (PyData ⊕ Addr) → Prop} (nf : NoF m) (hs : Ev ta σ H (.ref nb)) (hN : NB K T M B H nb st) (hG : NbG st) (ha : EvBs K targs σ B H ds) (hf : R st ds o)
    (k1 : ∀ d, o = .inl d → ∀ H', Ex H H' → D.nx σ H') (k2 : ∀ c, o = .inr c → ∀ H', Ex H H' → E σ (.ref c) none H') : tDrop (tMet T.N m (spNq K T R) E ta targs) D σ H := t_q (Q := fun _ H' => D.nx σ H') nf hs hN hG ha hf (fun d e v H' B' g _ => k1 d e H' g.ex) k2
theorem s_metD {R : NbS → List PyData → (PyData ⊕ Addr) → NbS → Prop} (nf : NoF m) (hs : Ev ta σ H (.ref nb)) (hN : NB K T M B H nb st) (hG : NbG st) (ha : EvBs K targs σ B H ds) (hf : R st ds o st')
    (k1 : ∀ d, o = .inl d → ∀ v H' B' M', Fr M M' B H H' B' → NB K T M' B' H' nb st' → Dt K B' v d → D.nx σ H') (k2 : ∀ c, o = .inr c → ∀ H' B' M', Fr M M' B H H' B' → NB K T M' B' H' nb st' → E σ (.ref c) none H') : tDrop (tMet T.N m (spNb K T R) E ta targs) D σ H := t_met (Q := fun _ H' => D.nx σ H') nf hs hN hG ha hf k1 k2
theorem s_metA {R : NbS → List PyData → (PyData ⊕ Addr) → NbS → Prop} (nf : NoF m) (hs : Ev ta σ H (.ref nb)) (hN : NB K T M B H nb st) (hG : NbG st) (ha : EvBs K targs σ B H ds) (hf : R st ds o st')
    (k1 : ∀ d, o = .inl d → ∀ v H' B' M', Fr M M' B H H' B' → NB K T M' B' H' nb st' → Dt K B' v d → D.nx (σ.set i (some v)) H') (k2 : ∀ c, o = .inr c → ∀ H' B' M', Fr M M' B H H' B' → NB K T M' B' H' nb st' → E σ (.ref c) none H') : tAsg (tMet T.N m (spNb K T R) E ta targs) (gName i) D σ H := t_met (Q := fun v H' => D.nx (σ.set i (some v)) H') nf hs hN hG ha hf k1 k2
end
section
variable {K : Frag} {T : NbC} {M : Addr → Prop} {B H H' : Hp} {nb dn c r : Addr} {st : NbS} {kvs : List (Key × V)} {ad : Nat → Addr} {σ : L2.St} {ta ty te : TE} {n : Nat}
theorem NbL.lenE (L : NbL K T M B H nb st dn c r kvs ad) (U : NbT K T) (h : Ev ta σ H (.ref nb)) : Ev (tCB (rLenU K) (tCons (tFld K ta "row") tNil)) σ H (.int (st.row.length : Int)) :=
  ev_is (ev_lenL (K := K) (evd_of (L.rowE U h) L.dtRow)) (by rw [List.length_map])
theorem NbL.ne_cr (L : NbL K T M B H nb st dn c r kvs ad) : c ≠ r := ne_of L.hc L.hr fun z => by cases z
theorem NbL.ne_nc (L : NbL K T M B H nb st dn c r kvs ad) : nb ≠ c := ne_of L.hn L.hc fun z => by cases z
theorem NbL.ne_nr (L : NbL K T M B H nb st dn c r kvs ad) : nb ≠ r := ne_of L.hn L.hr fun z => by cases z
theorem NbL.ne_na (L : NbL K T M B H nb st dn c r kvs ad) (hn : n ∈ st.row) : ad n ≠ nb := by
  obtain ⟨dx, lv, rv, h1, _⟩ := L.cells n hn
  refine ne_of h1 L.hn fun z => ?_
  injection z with _ _ z
  have z := congrArg List.length z
  simp at z
theorem NbL.ne_ca (L : NbL K T M B H nb st dn c r kvs ad) (hn : n ∈ st.row) : ad n ≠ c := by
  obtain ⟨dx, lv, rv, h1, _⟩ := L.cells n hn
  exact ne_of h1 L.hc fun z => by cases z
theorem NbL.ne_ra (L : NbL K T M B H nb st dn c r kvs ad) (hn : n ∈ st.row) : ad n ≠ r := by
  obtain ⟨dx, lv, rv, h1, _⟩ := L.cells n hn
  exact ne_of h1 L.hr fun z => by cases z
end
abbrev rIns : V → List V → Hp → VK → Prop := fun x vs H Q => ∃ (l : Addr) (xs : List V) (i : Int) (y : V), x = .ref l ∧ vs = [.int i, y] ∧ H l = some (.lst xs) ∧ xs.length < sizeLine ∧ 0 ≤ i ∧ i < 2 ^ 63 ∧ Q .non (upd H l (.lst (xs.take i.toNat ++ [y] ++ xs.drop i.toNat)))
theorem kIns {X : Cx} : MtR X "list.insert" rIns := mt_insert
theorem s_ins {K : Frag} {σ : L2.St} {H : Hp} {ta t1 t2 : TE} {D : Ends} {l : Addr} {xs : List V} {i : Int} {y : V} (hl : H l = some (.lst xs)) (ha : Ev ta σ H (.ref l)) (h1 : Ev t1 σ H (.int i)) (h2 : Ev t2 σ H y) (hz : xs.length < 100000) (h0 : 0 ≤ i) (h3 : i < 2 ^ 63)
    (k : ∀ H1, Ex H H1 → D.nx σ (upd H1 l (.lst (xs.take i.toNat ++ [y] ++ xs.drop i.toNat)))) : tDrop (tBM K "list" rIns ta (tCons t1 (tCons t2 tNil))) D σ H :=
  ha H (Ex.refl H) _ fun H1 e1 => ⟨Or.inl ⟨rfl, xs, sq_of (e1 l _ hl)⟩, h1 H1 e1 _ fun H2 e2 => h2 H2 (e1.trans e2) _ fun H3 e3 => ⟨l, xs, i, y, rfl, rfl, ((e1.trans e2).trans e3) _ _ hl, sz_lt hz, h0, h3, k H3 ((e1.trans e2).trans e3)⟩⟩
/-! ### put -/
def newCell (src : Src) : CellS := ⟨src, 0, false, none⟩
def putS (st : NbS) (i : Nat) (src : Src) : NbS := ⟨st.row.take i ++ [st.after] ++ st.row.drop i, fun n => if n = st.after then newCell src else st.cell n, st.after + 1⟩
def R_put (cP cS cF : Addr) (st : NbS) (ds : List PyData) (o : PyData ⊕ Addr) (st' : NbS) : Prop := ∃ d s, ds = [d, s] ∧ okD s = true ∧
  ((isWithin d 0 (st.row.length : Int) = false ∧ o = .inr cP ∧ st' = st) ∨ (isWithin d 0 (st.row.length : Int) = true ∧ isSource s = false ∧ o = .inr cS ∧ st' = st) ∨
   (isWithin d 0 (st.row.length : Int) = true ∧ isSource s = true ∧ st.row.length = 30 ∧ o = .inr cF ∧ st' = st) ∨
   (∃ (i : Nat) (src : Src), d = .int (i : Int) ∧ i ≤ st.row.length ∧ s = encS src ∧ goodS src = true ∧ st.row.length < 30 ∧ o = .inl (.int (st.after : Int)) ∧ st' = putS st i src))
theorem mem_putS {st : NbS} {i n : Nat} {src : Src} : n ∈ (putS st i src).row ↔ n = st.after ∨ n ∈ st.row := by
  unfold putS
  simp only [List.mem_append, List.mem_singleton]
  constructor
  · rintro ((h | h) | h)
    · exact .inr (List.mem_of_mem_take h)
    · exact .inl h
    · exact .inr (List.mem_of_mem_drop h)
  · rintro (h | h)
    · exact .inl (.inr h)
    · rw [← List.take_append_drop i st.row] at h
      rcases List.mem_append.mp h with h | h
      · exact .inl (.inl h)
      · exact .inr h
theorem NbG.put {st : NbS} (G : NbG st) {i : Nat} {src : Src} (hg : goodS src = true) (hl : st.row.length < 30) (hf : st.after < 5000) : NbG (putS st i src) := by
  have hna : st.after ∉ st.row := fun h => by have := G.lt _ h; omega
  refine ⟨fun n hn => ?_, fun n hn => ?_, ?_, ?_, by show st.after + 1 ≤ 5000; omega, fun n hn => ?_⟩
  · show goodS (if n = st.after then newCell src else st.cell n).src = true
    rcases mem_putS.mp hn with h | h
    · rw [if_pos h]; exact hg
    · rw [if_neg (fun z : n = st.after => hna (by rw [← z]; exact h))]; exact G.good n h
  · show n < st.after + 1
    rcases mem_putS.mp hn with h | h
    · omega
    · have := G.lt n h; omega
  · show (st.row.take i ++ [st.after] ++ st.row.drop i).Nodup
    have hnd := G.nd
    rw [← List.take_append_drop i st.row] at hnd
    rw [List.append_assoc, List.nodup_append] at *
    refine ⟨hnd.1, ?_, fun a ha b hb => ?_⟩
    · rw [List.nodup_append]
      refine ⟨by simp, hnd.2.1, fun a ha b hb => ?_⟩
      rw [List.mem_singleton] at ha
      rw [ha]
      exact fun z => hna (List.mem_of_mem_drop (z ▸ hb))
    · rcases List.mem_append.mp hb with hb | hb
      · rw [List.mem_singleton] at hb
        rw [hb]
        exact fun z => hna (List.mem_of_mem_take (z ▸ ha))
      · exact hnd.2.2 a ha b hb
  · show (st.row.take i ++ [st.after] ++ st.row.drop i).length ≤ 30
    rw [List.length_append, List.length_append, List.length_take, List.length_drop, List.length_singleton]
    omega
  · show (if n = st.after then newCell src else st.cell n).count ≤ 5000
    rcases mem_putS.mp hn with h | h
    · rw [if_pos h]; exact Nat.zero_le _
    · rw [if_neg (fun z : n = st.after => hna (by rw [← z]; exact h))]; exact G.cnt n h
theorem NbL.put {K : Frag} {T : NbC} {M : Addr → Prop} {B H H' : Hp} {nb dn c r x dx : Addr} {st : NbS} {kvs : List (Key × V)} {ad : Nat → Addr} {v : V} {i : Nat} {src : Src} (L : NbL K T M B H nb st dn c r kvs ad) (G : NbG st) (hi : i ≤ st.row.length)
    (hx : H x = none) (hv : Dt K B v (encS src)) (h1 : H' nb = some (.ins T.N dn [("cells", .ref c), ("row", .ref r), ("after", .int ((st.after : Int) + 1))])) (h2 : H' c = some (.dK (putK kvs (.inl (st.after : Int)) (.ref x))))
    (h3 : H' r = some (.lst ((st.row.map fun n : Nat => V.int (n : Int)).take i ++ [V.int (st.after : Int)] ++ (st.row.map fun n : Nat => V.int (n : Int)).drop i)))
    (h4 : H' x = some (.ins T.C dx [("lines", v), ("count", .int 0), ("struck", .bl false), ("record", .non)])) (h5 : ∀ a o, a ≠ nb → a ≠ c → a ≠ r → H a = some o → H' a = some o) :
    Fr M (fun a => M a ∨ a = x) B H H' B ∧ NbL K T (fun a => M a ∨ a = x) B H' nb (putS st i src) dn c r (putK kvs (.inl (st.after : Int)) (.ref x)) (fun n => if n = st.after then x else ad n) := by
  have hna : st.after ∉ st.row := fun h => by have := G.lt _ h; omega
  have bn := (L.m _ L.mn).1
  have bc := (L.m _ L.mc).1
  have br := (L.m _ L.mr).1
  have x' : Ex B H' := fun a o h => h5 a o (fun z => by rw [z, bn] at h; cases h) (fun z => by rw [z, bc] at h; cases h) (fun z => by rw [z, br] at h; cases h) (L.x _ _ h)
  have bx : B x = none := fresh_back L.x hx
  have stay : ∀ a, H a ≠ none → H' a ≠ none := fun a h => by
    by_cases e1 : a = nb
    · rw [e1, h1]; exact fun z => nomatch z
    by_cases e2 : a = c
    · rw [e2, h2]; exact fun z => nomatch z
    by_cases e3 : a = r
    · rw [e3, h3]; exact fun z => nomatch z
    cases q : H a with
    | none => exact absurd q h
    | some o => rw [h5 a o e1 e2 e3 q]; exact fun z => nomatch z
  have nx : ∀ n ∈ st.row, ad n ≠ x := fun n hn z => (L.m _ (L.mad n hn)).2 (by rw [z]; exact hx)
  refine ⟨⟨fun a o h n => h5 a o (fun z => n (z ▸ L.mn)) (fun z => n (z ▸ L.mc)) (fun z => n (z ▸ L.mr)) h, Ex.refl B, x', fun a h _ => h, fun a h => h.imp id fun z => by rw [z]; exact hx, fun a h => .inl h, stay⟩, x', fun a h => ?_, h1, h2, ?_, .inl L.mn, .inl L.mc, .inl L.mr, fun n hn => ?_, fun j hj => ?_, ?_, fun n hn => ?_, fun n hn => ?_, fun n hn m hm e => ?_⟩
  · rcases h with h | h
    · exact ⟨(L.m a h).1, stay a (L.m a h).2⟩
    · rw [h]
      exact ⟨bx, by rw [h4]; exact fun z => nomatch z⟩
  · rw [h3]
    show some (HO.lst _) = some (HO.lst ((st.row.take i ++ [st.after] ++ st.row.drop i).map fun n : Nat => V.int (n : Int)))
    rw [List.map_append, List.map_append, List.map_take, List.map_drop] <;> rfl
  · rw [valV_put]
    rcases mem_putS.mp hn with h | h
    · rw [if_pos (by rw [h]), if_pos h]
    · have hne : n ≠ st.after := fun z => hna (z ▸ h)
      rw [if_neg (fun z => hne (by have := Sum.inl.inj z; omega)), if_neg hne]
      exact L.kin n h
  · rw [valV_put, if_neg (fun z => hj st.after (mem_putS.mpr (.inl rfl)) (Sum.inl.inj z).symm)]
    exact L.kout j fun n hn => hj n (mem_putS.mpr (.inr hn))
  · have h1 := length_putK kvs (Sum.inl (st.after : Int)) (.ref x)
    have h2 := L.kl
    show _ ≤ st.after + 1
    omega
  · show M (if n = st.after then x else ad n) ∨ (if n = st.after then x else ad n) = x
    rcases mem_putS.mp hn with h | h
    · rw [if_pos h]; exact .inr rfl
    · rw [if_neg (fun z : n = st.after => hna (by rw [← z]; exact h))]; exact .inl (L.mad n h)
  · show CellAt K T B H' (if n = st.after then x else ad n) (if n = st.after then newCell src else st.cell n)
    rcases mem_putS.mp hn with h | h
    · rw [if_pos h, if_pos h]
      exact ⟨dx, v, .non, h4, hv, rfl⟩
    · have hne : n ≠ st.after := fun z => hna (z ▸ h)
      rw [if_neg hne, if_neg hne]
      exact (L.cells n h).mono (Ex.refl B) fun o ho => h5 _ o (L.ne_na h) (L.ne_ca h) (L.ne_ra h) ho
  · rcases mem_putS.mp hn with h | h <;> rcases mem_putS.mp hm with h' | h'
    · omega
    · have hne : m ≠ st.after := fun z => hna (z ▸ h')
      rw [if_pos h, if_neg hne] at e
      exact absurd e.symm (nx m h')
    · have hne : n ≠ st.after := fun z => hna (z ▸ h)
      rw [if_neg hne, if_pos h'] at e
      exact absurd e (nx n h)
    · have hne : n ≠ st.after := fun z => hna (z ▸ h)
      have hne' : m ≠ st.after := fun z => hna (z ▸ h')
      rw [if_neg hne, if_neg hne'] at e
      exact L.inj n h m h' e
end LC
namespace LC
open PySem PySem.Spec PyProof.Rows L2 Evl
/-! ### a cell written -/
def setS (st : NbS) (n : Nat) (c : CellS) : NbS := ⟨st.row, fun m => if m = n then c else st.cell m, st.after⟩
theorem NbL.setCell {K : Frag} {T : NbC} {M : Addr → Prop} {B H H' : Hp} {nb dn c r dx : Addr} {st : NbS} {kvs : List (Key × V)} {ad : Nat → Addr} {lv rv : V} {n : Nat} {cs : CellS} (L : NbL K T M B H nb st dn c r kvs ad) (hn : n ∈ st.row)
    (h1 : H' (ad n) = some (.ins T.C dx [("lines", lv), ("count", .int (cs.count : Int)), ("struck", .bl cs.struck), ("record", rv)])) (h2 : Dt K B lv (encS cs.src)) (h3 : RecAt K T B rv cs.recd) (h5 : ∀ a o, a ≠ ad n → H a = some o → H' a = some o) :
    Fr M M B H H' B ∧ NbL K T M B H' nb (setS st n cs) dn c r kvs ad := by
  have bn := (L.m _ (L.mad n hn)).1
  have x' : Ex B H' := fun a o h => h5 a o (fun z => by rw [z, bn] at h; cases h) (L.x _ _ h)
  have stay : ∀ a, H a ≠ none → H' a ≠ none := fun a h => by
    by_cases e1 : a = ad n
    · rw [e1, h1]; exact fun z => nomatch z
    cases q : H a with
    | none => exact absurd q h
    | some o => rw [h5 a o e1 q]; exact fun z => nomatch z
  refine ⟨⟨fun a o h m => h5 a o (fun z => m (by rw [z]; exact L.mad n hn)) h, Ex.refl B, x', fun a h _ => h, fun a h => .inl h, fun a h => h, stay⟩, x', fun a h => ⟨(L.m a h).1, stay a (L.m a h).2⟩, h5 _ _ (L.ne_na hn).symm L.hn, h5 _ _ (L.ne_ca hn).symm L.hc, h5 _ _ (L.ne_ra hn).symm L.hr, L.mn, L.mc, L.mr, L.kin, L.kout, L.kl, L.mad, fun m hm => ?_, L.inj⟩
  show CellAt K T B H' (ad m) (if m = n then cs else st.cell m)
  by_cases e : m = n
  · rw [if_pos e, e]
    exact ⟨dx, lv, rv, h1, h2, h3⟩
  · rw [if_neg e]
    exact (L.cells m hm).mono (Ex.refl B) fun o ho => h5 _ o (fun z => e (L.inj m hm n hn z)) ho
theorem NbG.setS {st : NbS} (G : NbG st) {n : Nat} {c : CellS} (hg : goodS c.src = true) (hc : c.count ≤ 5000) : NbG (setS st n c) := by
  refine ⟨fun m hm => ?_, G.lt, G.nd, G.len, G.few, fun m hm => ?_⟩
  · show goodS (if m = n then c else st.cell m).src = true
    split
    · exact hg
    · exact G.good m hm
  · show (if m = n then c else st.cell m).count ≤ 5000
    split
    · exact hc
    · exact G.cnt m hm
/-! ### what is told of cells -/
def R_version (cB : Addr) (st : NbS) (ds : List PyData) (o : PyData ⊕ Addr) : Prop := ∃ d, ds = [d] ∧ ((isCellD st d = false ∧ o = .inr cB) ∨ ∃ n ∈ st.row, d = .int ((n : Nat) : Int) ∧ o = .inl (.int ((st.cell n).count : Int)))
def R_source (cB : Addr) (st : NbS) (ds : List PyData) (o : PyData ⊕ Addr) : Prop := ∃ d, ds = [d] ∧ ((isCellD st d = false ∧ o = .inr cB) ∨ ∃ n ∈ st.row, d = .int ((n : Nat) : Int) ∧ o = .inl (encS (st.cell n).src))
def R_numbers (st : NbS) (ds : List PyData) (o : PyData ⊕ Addr) : Prop := ds = [] ∧ o = .inl (.list (st.row.map fun n : Nat => PyData.int (n : Int)))
def chC (c : CellS) (src : Src) : CellS := ⟨src, c.count + 1, c.struck, c.recd⟩
def R_change (cC cP cS cB : Addr) (st : NbS) (ds : List PyData) (o : PyData ⊕ Addr) (st' : NbS) : Prop := ∃ d e s, ds = [d, e, s] ∧ okD s = true ∧
  ((isCellD st d = false ∧ o = .inr cC ∧ st' = st) ∨ ∃ n ∈ st.row, d = .int ((n : Nat) : Int) ∧
    ((isWithin e 0 1000000 = false ∧ o = .inr cP ∧ st' = st) ∨ ∃ i : Int, e = .int i ∧ isWithin e 0 1000000 = true ∧
      ((isSource s = false ∧ o = .inr cS ∧ st' = st) ∨ ∃ src, s = encS src ∧ goodS src = true ∧
        ((i ≠ ((st.cell n).count : Int) ∧ o = .inr cB ∧ st' = st) ∨ (i = ((st.cell n).count : Int) ∧ o = .inl (.int ((st.cell n).count + 1 : Int)) ∧ st' = LC.setS st n (chC (st.cell n) src))))))
def R_holds0 (st : NbS) (ds : List PyData) (o : PyData ⊕ Addr) : Prop := ∃ n x, ds = [.int ((n : Nat) : Int), x] ∧ n ∈ st.row ∧ (st.cell n).recd = none ∧ o = .inl (.bool false)
def R_fresh0 (st : NbS) (ds : List PyData) (o : PyData ⊕ Addr) : Prop := ds = [] ∧ (∀ n ∈ st.row, (st.cell n).recd = none) ∧ o = .inl (.list [])
def R_state0 (st : NbS) (ds : List PyData) (o : PyData ⊕ Addr) : Prop := ∃ n : Nat, ds = [.int (n : Int)] ∧ n ∈ st.row ∧ (st.cell n).struck = false ∧ (st.cell n).recd = none ∧ o = .inl (.str "new")
def R_never (st : NbS) (ds : List PyData) (o : PyData ⊕ Addr) : Prop := False
theorem cell_int {st : NbS} {n : Nat} (h : n ∈ st.row) : isCellD st (.int (n : Int)) = true := isCell_iff.mpr ⟨n, h, rfl⟩
theorem spNq_never {P : Program} {w : World} {K : Frag} {mg : Str → Option Value} {base : Heap} {CX : CXT} {k : Nat} {T : NbC} {x q m : Str} {st : Stmt} {f : Addr} {fd : FuncData} {ps : List Str} (F : FnP K x q st f fd) (g : Meth K T.N m f) (b : Binds K fd ps []) : HasM P w K mg base CX k T.N m ps (spNq K T R_never) :=
  ⟨f, fd, ⟨fun vs H Q E z => by obtain ⟨_, _, _, _, _, _, _, _, _, _, _, z, _⟩ := z; exact z.elim, fun A outer s H args us vs Q E hr e0 hb hv z => by obtain ⟨_, _, _, _, _, _, _, _, _, _, _, z, _⟩ := z; exact z.elim⟩, b, g⟩
theorem NbL.base {K : Frag} {T : NbC} {M : Addr → Prop} {B B' H : Hp} {nb dn c r : Addr} {st : NbS} {kvs : List (Key × V)} {ad : Nat → Addr} (L : NbL K T M B H nb st dn c r kvs ad) (x : Ex B B') (x' : Ex B' H) (m : ∀ a, M a → B' a = none) : NbL K T M B' H nb st dn c r kvs ad :=
  ⟨x', fun a h => ⟨m a h, (L.m a h).2⟩, L.hn, L.hc, L.hr, L.mn, L.mc, L.mr, L.kin, L.kout, L.kl, L.mad, fun n hn => (L.cells n hn).mono x fun o h => h, L.inj⟩
theorem ev_isN {σ : L2.St} {H : Hp} {ta : TE} {v : V} (h : Ev ta σ H v) : Ev (tOp (fun x y H Q => y = V.non ∧ Q (.bl (decide (x = .non))) H) ta (tC .non)) σ H (.bl (decide (v = .non))) := fun H1 e Q q => h H1 e _ fun H2 e2 => ⟨rfl, q H2 e2⟩
theorem ev_notN {σ : L2.St} {H : Hp} {ta : TE} {v : V} (h : Ev ta σ H v) : Ev (tOp (fun x y H Q => y = V.non ∧ Q (.bl (!decide (x = .non))) H) ta (tC .non)) σ H (.bl (!decide (v = .non))) := fun H1 e Q q => h H1 e _ fun H2 e2 => ⟨rfl, q H2 e2⟩
end LC

namespace LC
open PySem PySem.Spec PyProof.Rows L2 Evl
/-! ### xs[i] += e, xs[i] = e -/
def rGetL : V → V → Hp → VK → Prop := fun x y H Q => ∃ p xs i v, x = .ref p ∧ y = .int i ∧ H p = some (.lst xs) ∧ 0 ≤ i ∧ xs[i.toNat]? = some v ∧ Q v H
theorem get_list {X : Cx} : PGet X rGetL := by
  intro pins s σ H x y v u Q I rx ry h
  obtain ⟨p, xs, i, z, rfl, rfl, hq, h0, he, q⟩ := h
  cases rx
  obtain ⟨t, rfl⟩ := ry
  obtain ⟨its, r, pl, hz⟩ := I.list (sq_of hq)
  obtain ⟨w, ew, rw'⟩ := r.get he
  have hl := r.length
  have hn := line63
  have hlt : i.toNat < xs.length := (List.getElem?_eq_some_iff.mp he).1
  exact wpAny_getItem_list pl.isList h0 (by omega) (by simpa using ew) ⟨z, H, I, rw', q⟩
section
variable {K : Frag} {σ : L2.St} {H : Hp} {to ti te : TE} {D : Ends} {p : Addr} {xs : List V} {i : Nat}
theorem s_augL {a b : Int} (ho : Ev to σ H (.ref p)) (hi : Ev ti σ H (.int (i : Int))) (hp : H p = some (.lst xs)) (hx : xs[i]? = some (.int a)) (he : Ev te σ H (.int b)) (k : ∀ H1, Ex H H1 → D.nx σ (upd H1 p (.lst (xs.set i (.int (a + b)))))) : tAugS to ti te rGetL (ipI fun i j => i + j) rSetL D σ H := by
  refine ho H (Ex.refl H) _ fun H1 e1 => hi H1 e1 _ fun H2 e2 => ⟨p, xs, (i : Int), .int a, rfl, rfl, e2 _ _ (e1 _ _ hp), by omega, by rw [Int.toNat_natCast]; exact hx, ?_⟩
  have hlt : i < xs.length := (List.getElem?_eq_some_iff.mp hx).1
  refine he H2 (e1.trans e2) _ fun H3 e3 => ⟨a, b, rfl, rfl, p, xs, (i : Int), i, rfl, rfl, ((e1.trans e2).trans e3) _ _ hp, ixN_nat hlt, k H3 ((e1.trans e2).trans e3)⟩
theorem s_setL {v : V} (he : Ev te σ H v) (ho : Ev to σ H (.ref p)) (hi : Ev ti σ H (.int (i : Int))) (hp : H p = some (.lst xs)) (hlt : i < xs.length) (k : ∀ H1, Ex H H1 → D.nx σ (upd H1 p (.lst (xs.set i v)))) : tAsg te (gSub to ti rSetL) D σ H :=
  he H (Ex.refl H) _ fun H1 e1 => ho H1 e1 _ fun H2 e2 => hi H2 (e1.trans e2) _ fun H3 e3 => ⟨p, xs, (i : Int), i, rfl, rfl, ((e1.trans e2).trans e3) _ _ hp, ixN_nat hlt, k H3 ((e1.trans e2).trans e3)⟩
/-- .. of data -/
theorem s_setLB {B : Hp} {d : PyData} (he : EvB K te σ B H d) (ho : Ev to σ H (.ref p)) (hi : Ev ti σ H (.int (i : Int))) (hp : H p = some (.lst xs)) (hlt : i < xs.length) (k : ∀ v H1 Hd, Gr B H H1 Hd → Dt K Hd v d → D.nx σ (upd H1 p (.lst (xs.set i v)))) : tAsg te (gSub to ti rSetL) D σ H :=
  he H (Ex.refl H) _ fun v H1 Hd g hd => ho H1 g.ex _ fun H2 e2 => hi H2 (g.ex.trans e2) _ fun H3 e3 => ⟨p, xs, (i : Int), i, rfl, rfl, ((g.ex.trans e2).trans e3) _ _ hp, ixN_nat hlt, k v H3 Hd (g.more (e2.trans e3)) hd⟩
end
end LC
namespace LC
open PySem PySem.Spec PyProof.Rows L2 Evl
/-! ### a new list of data, which may be changed later on -/
def EvF (K : Frag) (te : TE) (σ : L2.St) (B H : Hp) (ds : List PyData) : Prop := ∀ H1, Ex H H1 → ∀ Q : VK, (∀ p vs H2 Hd, H1 p = none → Gr B H1 H2 Hd → Hd p = none → H2 p = some (.lst vs) → DtAll K Hd vs ds → Q (.ref p) H2) → te σ H1 Q
section
variable {K : Frag} {σ : L2.St} {A B H H' : Hp} {te ta tb tn : TE} {d z : PyData} {targs : TA} {ds : List PyData} {D : Ends}
theorem EvF.toB (h : EvF K te σ B H ds) : EvB K te σ B H (.list ds) := fun H1 e Q q => h H1 e Q fun p vs H2 Hd hp g hd h2 hv => by
  have hu : Ex Hd (upd Hd p (.lst vs)) := Ex.new hd
  refine q (.ref p) H2 (upd Hd p (.lst vs)) ⟨g.ex, g.xd.trans hu, fun a o h => ?_, fun a h0 h1 => ?_⟩ (.lst upd_same (dpAll_ex hu _ _ hv))
  · by_cases z : a = p
    · rw [z, upd_same] at h
      rw [z, ← h]
      exact h2
    · rw [upd_ne z] at h
      exact g.d2 _ _ h
  · have ne : a ≠ p := fun z => h1 (by rw [z]; exact hp)
    rw [upd_ne ne]
    exact g.fr a h0 h1
theorem EvB.wide (h : EvB K te σ B H d) (x : Ex B A) (y : Ex A H) : EvB K te σ A H d := fun H1 e Q q => h H1 e Q fun v H2 Hd g hd => q v H2 _ (g.wide x (y.trans e)) (dp_ex (g.wide_r (y.trans e)) _ _ hd)
theorem evf_lst (h : EvBs K targs σ B H ds) (hl : ds.length ≤ 100000) : EvF K (tLst targs) σ B H ds := fun H1 e _ q =>
  h H1 e _ fun vs H2 Hd g hds => ⟨by rw [dpAll_len hds]; exact sz_of hl, fun p hp => q p vs _ Hd (fresh_back g.ex hp) (g.more (Ex.new hp)) (fresh_back g.d2 hp) upd_same hds⟩
theorem evf_rep {n : Int} (h : EvF K ta σ B H ds) (hn : Ev tn σ H (.int n)) (h0 : 0 ≤ n ∧ n ≤ 1000) (hl : ds.length ≤ 50) : EvF K (tOp (rMulU K) ta tn) σ B H (List.replicate n.toNat ds).flatten := fun H1 e Q q =>
  h H1 e _ fun p vs H2 Hd hp g hd h2 hv => hn H2 (e.trans g.ex) _ fun H3 e3 => .inr (.inl ⟨p, n, vs, rfl, rfl, e3 _ _ h2, by omega, by omega, by
    rw [dpAll_len hv]
    refine sz_of (Nat.le_trans (Nat.mul_le_mul hl (show n.toNat ≤ 1000 by omega)) (by decide)), fun l hl2 => q l _ _ Hd (fresh_back (g.ex.trans e3) hl2) ((g.more e3).more (Ex.new hl2)) (fresh_back (g.d2.trans e3) hl2) upd_same (dpAll_rep hv _)⟩)
theorem lc_turnB {H2 : Hp} {L : Addr} {out : List PyData} {σ2 : L2.St} (e : Ex A H2) (hD : H2 L = none) (p : Acc K A H2 L out H') (hl : out.length < 50000) (he : EvB K te σ2 A H2 z) :
    tYes σ2 H' fun b' H3 => if b' = true then te σ2 H3 fun y H4 => ∃ acc, H4 L = some (.lst acc) ∧ acc.length < sizeLine ∧ Acc K A H2 L (out ++ [z]) (upd H4 L (.lst (acc ++ [y]))) else Acc K A H2 L (out ++ [z]) H3 := by
  show te σ2 H' _
  refine he H' p.1 _ fun y H4 C g hy => ?_
  obtain ⟨acc, h1, h2, h3⟩ := p.push (fresh_back e hD) hD g hy
  exact ⟨acc, h1, sz_lt (by omega), h3⟩
theorem evf_lcR {ta : TA} {n j : Nat} {vs : List Nat} (g : Nat → PyData) (h : EvBs K ta σ B H [.int (n : Int)]) (hz : n ≤ 40000) (hw : ∀ x, wipe ((wipe σ vs).set j (some x)) vs = wipe σ vs)
    (he : ∀ i, i < n → EvB K te ((wipe σ vs).set j (some (.int (i : Int)))) B H (g i)) : EvF K (tLc (iRng1 ta) (gName j) tYes te vs) σ B H ((List.range n).map g) := fun H1 e Q q => h H1 e _ fun ws H2 A gr hd => by
  obtain rfl : ws = [.int (n : Int)] := by
    cases hd with
    | cons h1 h2 => cases h2; rw [dp_int h1]
  refine ⟨n, rfl, by omega, by omega, fun L hL => ?_⟩
  refine lc_range (lo := 0) (n := (n : Int).toNat) (fun i H' => Acc K A H2 L ((List.range i).map g) H') (Acc.nil gr.d2 hL) (fun i H' hi p => ?_) fun H' p => ?_
  · have e0 : (0 : Int) + (i : Int) = (i : Int) := Int.zero_add _
    have hi2 : i < n := by omega
    have key := lc_turnB (te := te) (σ2 := (wipe σ vs).set j (some (.int (i : Int)))) gr.d2 hL p (by rw [List.length_map, List.length_range]; omega) (((he i hi2).ex (e.trans gr.ex)).wide gr.xd gr.d2)
    have e1 : (List.range (i + 1)).map g = (List.range i).map g ++ [g i] := by rw [List.range_succ, List.map_append] <;> rfl
    show gName j (.int ((0 : Int) + (i : Int))) (wipe σ vs) H' _
    rw [e0]
    refine ⟨hw _, ?_⟩
    rw [e1]
    exact key
  · have p2 : Acc K A H2 L ((List.range (n : Int).toNat).map g) H' := p
    rw [Int.toNat_natCast] at p2
    obtain ⟨p1, C, acc, h1, h2, h3, h4, h5, h6⟩ := p2
    exact q L acc H' C (fresh_back gr.ex hL) ⟨gr.ex.trans p1, gr.xd.trans h2, h3, fun a h0 hn => h5 a (gr.fr a h0 hn) (ne_none gr.ex hn)⟩ h4 h1 h6
theorem s_asgF {i : Nat} (h : EvF K te σ B H ds) (k : ∀ p vs H1 Hd, H p = none → Gr B H H1 Hd → Hd p = none → H1 p = some (.lst vs) → DtAll K Hd vs ds → D.nx (σ.set i (some (.ref p))) H1) : tAsg te (gName i) D σ H := h H (Ex.refl H) _ k
theorem s_setLF {to ti : TE} {p : Addr} {xs : List V} {i : Nat} (he : EvF K te σ B H ds) (ho : Ev to σ H (.ref p)) (hi : Ev ti σ H (.int (i : Int))) (hp : H p = some (.lst xs)) (hlt : i < xs.length) (k : ∀ l vs H1 Hd, H l = none → Gr B H H1 Hd → Hd l = none → H1 l = some (.lst vs) → DtAll K Hd vs ds → D.nx σ (upd H1 p (.lst (xs.set i (.ref l))))) : tAsg te (gSub to ti rSetL) D σ H :=
  he H (Ex.refl H) _ fun l vs H1 Hd hl g hd h1 hv => ho H1 g.ex _ fun H2 e2 => hi H2 (g.ex.trans e2) _ fun H3 e3 => ⟨p, xs, (i : Int), i, rfl, rfl, ((g.ex.trans e2).trans e3) _ _ hp, ixN_nat hlt, k l vs H3 Hd hl (g.more (e2.trans e3)) hd ((e2.trans e3) _ _ h1) hv⟩
theorem s_two {i : Nat} {es : List PyData} (h1 : EvF K ta σ B H ds) (h2 : EvF K tb σ B H es) (k : ∀ p l m us vs H1 Hd, H p = none → H l = none → H m = none → l ≠ m → p ≠ l → p ≠ m → Gr B H H1 Hd → Hd p = none → Hd l = none → Hd m = none →
    H1 p = some (.lst [.ref l, .ref m]) → H1 l = some (.lst us) → H1 m = some (.lst vs) → DtAll K Hd us ds → DtAll K Hd vs es → D.nx (σ.set i (some (.ref p))) H1) : tAsg (tLst (tCons ta (tCons tb tNil))) (gName i) D σ H :=
  h1 H (Ex.refl H) _ fun l us H1 A hl g1 hA hu du => h2 H1 g1.ex _ fun m vs H2 C hm g2 hC hv dv => ⟨by rw [sizeLine_eq]; show 2 ≤ _; omega, fun p hp => by
    have g := g1.join g2
    have jn : ∀ a, A a = none → C a = none → join A C a = none := fun a h h' => by unfold join; rw [h]; exact h'
    have cl : C l = none := g2.fr l (fresh_back g1.xd hA) (by rw [hu]; exact fun z => nomatch z)
    have am : A m = none := fresh_back g1.d2 hm
    have h2l : H2 l = some (.lst us) := g2.ex _ _ hu
    have pl : p ≠ l := fun z => by rw [z, h2l] at hp; cases hp
    have pm : p ≠ m := fun z => by rw [z, hv] at hp; cases hp
    have lm : l ≠ m := fun z => by rw [z] at hu; rw [hu] at hm; cases hm
    refine k p l m us vs _ _ (fresh_back g.ex hp) hl (fresh_back g1.ex hm) lm pl pm (g.more (Ex.new hp)) (fresh_back g.d2 hp) (jn l hA cl) (jn m am hC) upd_same ?_ ?_ (dpAll_ex join_l _ _ du) (dpAll_ex (join_r (g1.d2.trans g2.ex) g2.d2) _ _ dv)
    · rw [upd_ne pl.symm]
      exact h2l
    · rw [upd_ne pm.symm]
      exact hv⟩
end
end LC

namespace LC
open PySem PySem.Spec PyProof.Rows L2 Evl
/-! ### a new notebook -/
def st0 : NbS := ⟨[], fun _ => newCell [], 0⟩
theorem NbG.st0 : NbG LC.st0 := ⟨fun _ h => (nomatch h), fun _ h => (nomatch h), List.nodup_nil, Nat.zero_le _, Nat.zero_le _, fun _ h => (nomatch h)⟩
section
variable {K : Frag} {T : NbC} {σ : L2.St} {H B : Hp} {E : XK} {Q : VK} {D : Ends} {i : Nat}
theorem t_new (x : Ex B H) (k : ∀ nb H' M, Ex H H' → NB K T M B H' nb st0 → (∀ a, M a → H a = none) → Q (.ref nb) H') : tMake T.N (spNbI K T) [] E tNil σ H Q := by
  intro p dx hx hdx hne
  refine ⟨p, dx, rfl, upd_same, fun c r H' hc hr ncr h1 h2 h3 h4 => ⟨rfl, ?_⟩⟩
  have nc : c ≠ p := fun z => by rw [z, upd_same] at hc; cases hc
  have nr : r ≠ p := fun z => by rw [z, upd_same] at hr; cases hr
  rw [upd_ne nc] at hc
  rw [upd_ne nr] at hr
  have ncd : c ≠ dx := fun z => by rw [z, upd_same] at hc; cases hc
  have nrd : r ≠ dx := fun z => by rw [z, upd_same] at hr; cases hr
  rw [upd_ne ncd] at hc
  rw [upd_ne nrd] at hr
  have e : Ex H H' := fun a o h => by
    have h1 : a ≠ p := ne_of_none h hx
    have h2 : a ≠ dx := ne_of_none h hdx
    refine h4 a o h1 ?_
    rw [upd_ne h1, upd_ne h2]
    exact h
  have hM : ∀ a, (a = p ∨ a = c ∨ a = r) → H a = none := fun a h => by
    rcases h with h | h | h <;> rw [h] <;> assumption
  refine k p H' (fun a => a = p ∨ a = c ∨ a = r) e ⟨dx, c, r, [], fun _ => 0, x.trans e, fun a h => ⟨fresh_back x (hM a h), ?_⟩, h1, h2, h3, .inl rfl, .inr (.inl rfl), .inr (.inr rfl), fun _ h => (nomatch h), fun _ _ => rfl, Nat.le_refl _, fun _ h => (nomatch h), fun _ h => (nomatch h), fun _ h => (nomatch h)⟩ hM
  rcases h with h | h | h <;> rw [h]
  · rw [h1]; exact fun z => nomatch z
  · rw [h2]; exact fun z => nomatch z
  · rw [h3]; exact fun z => nomatch z
theorem s_new_nb (x : Ex B H) (k : ∀ nb H' M, Ex H H' → NB K T M B H' nb st0 → (∀ a, M a → H a = none) → D.nx (σ.set i (some (.ref nb))) H') : tAsg (tMake T.N (spNbI K T) [] E tNil) (gName i) D σ H := t_new (Q := fun v H' => D.nx (σ.set i (some v)) H') x k
theorem ev_ixV {ta tb : TE} {p : Addr} {xs : List V} {v : V} {j : Nat} (h : Ev ta σ H (.ref p)) (hi : Ev tb σ H (.int (j : Int))) (hp : H p = some (.lst xs)) (hx : xs[j]? = some v) : Ev (tOp (rIx K) ta tb) σ H v := fun H1 e Q q =>
  h H1 e _ fun H2 e2 => hi H2 (e.trans e2) _ fun H3 e3 => .inl ⟨p, xs, (j : Int), v, rfl, rfl, sq_of (((e.trans e2).trans e3) _ _ hp), atI_nat hx, q H3 (e2.trans e3)⟩
end
/-! ### k14: a notebook, versions, what two hands have seen, sources -/
structure I14 (K : Frag) (T : NbC) (M : Addr → Prop) (B H : Hp) (nb : Addr) (st : NbS) (many lim : Nat) (pV pS pR : Addr) (l : Nat → Addr) (aa : Nat → List Int) (vs : List V) : Prop where
  N : NB K T M B H nb st
  G : NbG st
  row : st.row = List.range many
  pl : ∀ n, n < many → (st.cell n).struck = false ∧ (st.cell n).recd = none ∧ (st.cell n).count ≤ lim
  hV : H pV = some (.lst ((List.range many).map fun n => V.int ((st.cell n).count : Int)))
  hS : H pS = some (.lst [.ref (l 0), .ref (l 1)])
  hL : ∀ h, h < 2 → H (l h) = some (.lst ((aa h).map V.int))
  nL : ∀ h, h < 2 → (aa h).length = many
  bL : ∀ h, h < 2 → ∀ x ∈ aa h, 0 ≤ x ∧ x ≤ (lim : Int)
  hR : H pR = some (.lst vs)
  dR : DtAll K B vs ((List.range many).map fun n => encS (st.cell n).src)
  o : ∀ p ∈ [pV, pS, pR, l 0, l 1], B p = none ∧ ¬ M p
  nd : [pV, pS, pR, l 0, l 1].Nodup
section
variable {K : Frag} {T : NbC} {M : Addr → Prop} {B B' H H' : Hp} {nb : Addr} {st : NbS} {many lm : Nat} {pV pS pR : Addr} {l : Nat → Addr} {aa : Nat → List Int} {vs : List V}
theorem I14.there (I : I14 K T M B H nb st many lm pV pS pR l aa vs) : ∀ p ∈ [pV, pS, pR, l 0, l 1], H p ≠ none := fun p hp => by
  simp only [List.mem_cons, List.not_mem_nil, or_false] at hp
  rcases hp with rfl | rfl | rfl | rfl | rfl
  · rw [I.hV]; exact fun z => nomatch z
  · rw [I.hS]; exact fun z => nomatch z
  · rw [I.hR]; exact fun z => nomatch z
  · rw [I.hL 0 (by omega)]; exact fun z => nomatch z
  · rw [I.hL 1 (by omega)]; exact fun z => nomatch z
theorem I14.gr (I : I14 K T M B H nb st many lm pV pS pR l aa vs) (g : Gr B H H' B') : I14 K T M B' H' nb st many lm pV pS pR l aa vs :=
  ⟨I.N.gr g, I.G, I.row, I.pl, g.ex _ _ I.hV, g.ex _ _ I.hS, fun h hh => g.ex _ _ (I.hL h hh), I.nL, I.bL, g.ex _ _ I.hR, dpAll_ex g.xd _ _ I.dR, fun p hp => ⟨g.fr p (I.o p hp).1 (I.there p hp), (I.o p hp).2⟩, I.nd⟩
theorem I14.ex (I : I14 K T M B H nb st many lm pV pS pR l aa vs) (e : Ex H H') : I14 K T M B H' nb st many lm pV pS pR l aa vs := I.gr (Gr.base I.N.x e)
theorem I14.more {lm' : Nat} (I : I14 K T M B H nb st many lm pV pS pR l aa vs) (h : lm ≤ lm') : I14 K T M B H nb st many lm' pV pS pR l aa vs :=
  ⟨I.N, I.G, I.row, fun n hn => ⟨(I.pl n hn).1, (I.pl n hn).2.1, Nat.le_trans (I.pl n hn).2.2 h⟩, I.hV, I.hS, I.hL, I.nL, fun h' hh x hx => ⟨(I.bL h' hh x hx).1, by have := (I.bL h' hh x hx).2; omega⟩, I.hR, I.dR, I.o, I.nd⟩
theorem nb_upd {p : Addr} {u : HO} (h : NB K T M B H nb st) (hb : B p = none) (hm : ¬ M p) (hh : H p ≠ none) : NB K T M B (upd H p u) nb st :=
  h.apart (M := fun x => x = p) (M' := fun x => x = p) (fr_upd h.x rfl hb hh) fun a ha z => hm (z ▸ ha)
/-- seen[hand] = a new list -/
theorem I14.hand (I : I14 K T M B H nb st many lm pV pS pR l aa vs) {p : Addr} {ys : List Int} {hd : Nat} (hh : hd < 2) (hp : H p = some (.lst (ys.map V.int))) (hn : ys.length = many) (hy : ∀ x ∈ ys, 0 ≤ x ∧ x ≤ (lm : Int)) (ho : B p = none ∧ ¬ M p) (hne : p ∉ [pV, pS, pR, l 0, l 1]) :
    I14 K T M B (upd H pS (.lst (([.ref (l 0), .ref (l 1)] : List V).set hd (.ref p)))) nb st many lm pV pS pR (fun h => if h = hd then p else l h) (fun h => if h = hd then ys else aa h) vs := by
  have nd := I.nd
  simp only [List.nodup_cons, List.mem_cons, List.not_mem_nil, or_false, not_or, not_false_eq_true, List.nodup_nil, and_true] at nd
  simp only [List.mem_cons, List.not_mem_nil, or_false, not_or] at hne
  obtain ⟨⟨n1, n2, n3, n4⟩, ⟨n5, n6, n7⟩, ⟨n8, n9⟩, n10⟩ := nd
  obtain ⟨m1, m2, m3, m4, m5⟩ := hne
  have oS := I.o pS (by simp)
  refine ⟨nb_upd I.N oS.1 oS.2 (I.there pS (by simp)), I.G, I.row, I.pl, ?_, ?_, fun h hh' => ?_, fun h hh' => ?_, fun h hh' => ?_, ?_, I.dR, ?_, ?_⟩
  · rw [upd_ne n1]; exact I.hV
  · rw [upd_same]
    have : hd = 0 ∨ hd = 1 := by omega
    rcases this with rfl | rfl <;> rfl
  · show upd H pS _ (if h = hd then p else l h) = some (.lst ((if h = hd then ys else aa h).map V.int))
    by_cases e : h = hd
    · rw [if_pos e, if_pos e, upd_ne m2]; exact hp
    · rw [if_neg e, if_neg e, upd_ne]
      · exact I.hL h hh'
      · have : h = 0 ∨ h = 1 := by omega
        rcases this with rfl | rfl
        · exact Ne.symm n6
        · exact Ne.symm n7
  · show (if h = hd then ys else aa h).length = many
    split
    · exact hn
    · exact I.nL h hh'
  · show ∀ x ∈ (if h = hd then ys else aa h), _
    split
    · exact hy
    · exact I.bL h hh'
  · rw [upd_ne (Ne.symm n5)]; exact I.hR
  · intro q hq
    simp only [List.mem_cons, List.not_mem_nil, or_false] at hq
    rcases hq with rfl | rfl | rfl | hq | hq
    · exact I.o _ (by simp)
    · exact oS
    · exact I.o _ (by simp)
    · rw [hq]
      split
      · exact ho
      · exact I.o _ (by simp)
    · rw [hq]
      split
      · exact ho
      · exact I.o _ (by simp)
  · have : hd = 0 ∨ hd = 1 := by omega
    rcases this with rfl | rfl
    · simp [n1, n2, n4, n5, n7, n9, Ne.symm m1, Ne.symm m2, Ne.symm m3, m5]
    · simp [n1, n2, n3, n5, n6, n8, Ne.symm m1, Ne.symm m2, Ne.symm m3, Ne.symm m4]
theorem zeros {us : List V} : ∀ {n : Nat} {us : List V}, DtAll K H us (List.replicate n [PyData.int 0]).flatten → us = (List.replicate n (0 : Int)).map V.int
  | 0, us, h => by
    cases h
    rfl
  | n + 1, us, h => by
    rw [List.replicate_succ, List.flatten_cons] at h
    cases h with
    | cons h1 h2 =>
      rw [dp_int h1, zeros (us := []) h2, List.replicate_succ, List.map_cons]
theorem ints_inv : ∀ {xs : List Int} {us : List V}, DtAll K H us (xs.map PyData.int) → us = xs.map V.int
  | [], _, h => by cases h; rfl
  | x :: xs, _, h => by
    cases h with
    | cons h1 h2 => rw [dp_int h1, ints_inv h2, List.map_cons]
end
theorem set_range {α : Type} (f : Nat → α) (m n : Nat) (y : α) : ((List.range m).map f).set n y = (List.range m).map fun k => if k = n then y else f k := by
  apply List.ext_getElem?
  intro k
  rw [List.getElem?_set, List.getElem?_map, List.getElem?_map, List.length_map, List.length_range]
  by_cases h : n = k
  · subst h
    rw [if_pos rfl]
    by_cases hm : n < m
    · rw [if_pos hm, List.getElem?_range hm]
      simp
    · rw [if_neg hm, List.getElem?_eq_none (by rw [List.length_range]; omega)]
      rfl
  · rw [if_neg h]
    by_cases hm : k < m
    · rw [List.getElem?_range hm]
      simp [Ne.symm h]
    · rw [List.getElem?_eq_none (by rw [List.length_range]; omega)]
      rfl
theorem dpAll_set {K : Frag} {H : Hp} {v : V} {d : PyData} (hv : Dt K H v d) : ∀ {vs : List V} {ds : List PyData} (n : Nat), DtAll K H vs ds → DtAll K H (vs.set n v) (ds.set n d)
  | _, _, _, .nil => .nil
  | _, _, 0, .cons _ t => .cons hv t
  | _, _, n + 1, .cons h t => .cons h (dpAll_set hv n t)
section
variable {K : Frag} {T : NbC} {M M' : Addr → Prop} {B B1 H H1 H2 : Hp} {nb : Addr} {st : NbS} {many lm n hd : Nat} {pV pS pR : Addr} {l : Nat → Addr} {aa : Nat → List Int} {vs : List V} {v : V} {src : Src}
theorem I14.change (I : I14 K T M B H nb st many lm pV pS pR l aa vs) (hlm : lm < 5000) (f : Fr M M' B H H1 B1) (hN : NB K T M' B1 H1 nb (LC.setS st n (chC (st.cell n) src))) (hg : goodS src = true) (hn : n < many) (hh : hd < 2) (hv : Dt K B1 v (encS src))
    (h1 : H2 pV = some (.lst (((List.range many).map fun n => V.int ((st.cell n).count : Int)).set n (.int ((st.cell n).count + 1 : Int))))) (h2 : H2 pR = some (.lst (vs.set n v))) (h3 : H2 (l hd) = some (.lst (((aa hd).map V.int).set n (.int ((st.cell n).count + 1 : Int)))))
    (h4 : ∀ a o, a ≠ pV → a ≠ pR → a ≠ l hd → H1 a = some o → H2 a = some o) :
    I14 K T M' B1 H2 nb (LC.setS st n (chC (st.cell n) src)) many (lm + 1) pV pS pR l (fun h => if h = hd then (aa h).set n ((st.cell n).count + 1 : Int) else aa h) (vs.set n v) := by
  have nd := I.nd
  simp only [List.nodup_cons, List.mem_cons, List.not_mem_nil, or_false, not_or, not_false_eq_true, List.nodup_nil, and_true] at nd
  obtain ⟨⟨n1, n2, n3, n4⟩, ⟨n5, n6, n7⟩, ⟨n8, n9⟩, n10⟩ := nd
  have o' : ∀ p ∈ [pV, pS, pR, l 0, l 1], B1 p = none ∧ ¬ M' p := fun p hp => ⟨f.nw p (I.o p hp).1 (I.there p hp), fun z => by
    rcases f.mm p z with z | z
    · exact (I.o p hp).2 z
    · exact I.there p hp z⟩
  have hl : l hd ∈ [pV, pS, pR, l 0, l 1] := by
    have : hd = 0 ∨ hd = 1 := by omega
    rcases this with rfl | rfl <;> simp
  have k1 : ∀ p ∈ [pV, pS, pR, l 0, l 1], ∀ o, H p = some o → H1 p = some o := fun p hp o h => f.fr p o h (I.o p hp).2
  have lS : pS ≠ l hd := by
    have : hd = 0 ∨ hd = 1 := by omega
    rcases this with rfl | rfl
    · exact n6
    · exact n7
  have d2 : Ex B1 H2 := fun a o h => h4 a o (fun z => by rw [z, (o' pV (by simp)).1] at h; cases h) (fun z => by rw [z, (o' pR (by simp)).1] at h; cases h) (fun z => by rw [z, (o' _ hl).1] at h; cases h) (f.d2 _ _ h)
  refine ⟨hN.apart (M := fun x => x = pV ∨ x = pR ∨ x = l hd) (M' := fun x => x = pV ∨ x = pR ∨ x = l hd) (B' := B1) (H' := H2) ⟨fun a o h m => h4 a o (fun z => m (.inl z)) (fun z => m (.inr (.inl z))) (fun z => m (.inr (.inr z))) h, Ex.refl _, d2, fun a h _ => h, fun a h => .inl h, fun a h => h, fun a h => ?_⟩ fun a ha z => ?_, I.G.setS hg ?_, I.row, fun m hm => ?_, ?_, ?_, fun h hh' => ?_, fun h hh' => ?_, fun h hh' x hx => ?_, h2, ?_, o', I.nd⟩
  · by_cases e1 : a = pV
    · rw [e1, h1]; exact fun z => nomatch z
    by_cases e2 : a = pR
    · rw [e2, h2]; exact fun z => nomatch z
    by_cases e3 : a = l hd
    · rw [e3, h3]; exact fun z => nomatch z
    cases q : H1 a with
    | none => exact absurd q h
    | some o => rw [h4 a o e1 e2 e3 q]; exact fun z => nomatch z
  · rcases z with rfl | rfl | rfl
    · exact (o' _ (by simp)).2 ha
    · exact (o' _ (by simp)).2 ha
    · exact (o' _ hl).2 ha
  · show (st.cell n).count + 1 ≤ 5000
    have := (I.pl n hn).2.2
    omega
  · show (if m = n then chC (st.cell n) src else st.cell m).struck = false ∧ (if m = n then chC (st.cell n) src else st.cell m).recd = none ∧ (if m = n then chC (st.cell n) src else st.cell m).count ≤ lm + 1
    by_cases e : m = n
    · rw [if_pos e]
      exact ⟨(I.pl n hn).1, (I.pl n hn).2.1, by show (st.cell n).count + 1 ≤ lm + 1; have := (I.pl n hn).2.2; omega⟩
    · rw [if_neg e]
      exact ⟨(I.pl m hm).1, (I.pl m hm).2.1, by have := (I.pl m hm).2.2; omega⟩
  · rw [h1, set_range]
    show some (HO.lst _) = some (HO.lst ((List.range many).map fun m => V.int ((if m = n then chC (st.cell n) src else st.cell m).count : Int)))
    congr 2
    refine List.map_congr_left fun m _ => ?_
    by_cases e : m = n
    · rw [if_pos e, if_pos e] <;> rfl
    · rw [if_neg e, if_neg e]
  · exact h4 _ _ (Ne.symm n1) n5 lS (k1 _ (by simp) _ I.hS)
  · show H2 (l h) = some (.lst ((if h = hd then (aa h).set n ((st.cell n).count + 1 : Int) else aa h).map V.int))
    by_cases e : h = hd
    · rw [if_pos e, e, h3, List.map_set]
    · rw [if_neg e]
      have hm : l h ∈ [pV, pS, pR, l 0, l 1] := by
        have : h = 0 ∨ h = 1 := by omega
        rcases this with rfl | rfl <;> simp
      refine h4 _ _ ?_ ?_ ?_ (k1 _ hm _ (I.hL h hh'))
      · have : h = 0 ∨ h = 1 := by omega
        rcases this with rfl | rfl
        · exact Ne.symm n3
        · exact Ne.symm n4
      · have : h = 0 ∨ h = 1 := by omega
        rcases this with rfl | rfl
        · exact Ne.symm n8
        · exact Ne.symm n9
      · have : (h = 0 ∧ hd = 1) ∨ (h = 1 ∧ hd = 0) := by omega
        rcases this with ⟨rfl, rfl⟩ | ⟨rfl, rfl⟩
        · exact n10
        · exact Ne.symm n10
  · show (if h = hd then (aa h).set n ((st.cell n).count + 1 : Int) else aa h).length = many
    split
    · rw [List.length_set]; exact I.nL h hh'
    · exact I.nL h hh'
  · have hx : x ∈ (if h = hd then (aa h).set n ((st.cell n).count + 1 : Int) else aa h) := hx
    have hc := (I.pl n hn).2.2
    split at hx
    · rcases List.mem_or_eq_of_mem_set hx with hx | hx
      · have := I.bL h hh' x hx
        omega
      · omega
    · have := I.bL h hh' x hx
      omega
  · have := dpAll_set hv n (dpAll_ex f.xd _ _ I.dR)
    rw [set_range] at this
    have e : ((List.range many).map fun k => if k = n then encS src else encS (st.cell k).src) = (List.range many).map fun m => encS (if m = n then chC (st.cell n) src else st.cell m).src := by
      refine List.map_congr_left fun m _ => ?_
      by_cases e : m = n
      · rw [if_pos e, if_pos e] <;> rfl
      · rw [if_neg e, if_neg e]
    rw [e] at this
    exact this
end
theorem s_ifP {σ : L2.St} {H H0 : Hp} {t : TT} {tu tw : TS} {D : Ends} {b : Bool} (P : L2.St → Hp → Prop) (fin : ∀ σ H, P σ H → D.nx σ H) (h : EvT t σ H0 b) (x : Ex H0 H) (k1 : b = true → (∀ σ H, P σ H → D.nx σ H) → ∀ H1, Ex H H1 → tu D σ H1) (k2 : b = false → (∀ σ H, P σ H → D.nx σ H) → ∀ H1, Ex H H1 → tw D σ H1) : tIfS t tu tw D σ H := s_ifD h x (fun e => k1 e fin) fun e => k2 e fin
section
variable {K : Frag} {T : NbC} {M M' : Addr → Prop} {B B' H H' : Hp} {nb : Addr} {st : NbS} {many lm n hd : Nat} {pV pS pR : Addr} {l : Nat → Addr} {aa : Nat → List Int} {vs : List V} {σ : L2.St} {sv : Int}
theorem I14.fr (I : I14 K T M B H nb st many lm pV pS pR l aa vs) (f : Fr M M' B H H' B') (hN : NB K T M' B' H' nb st) : I14 K T M' B' H' nb st many lm pV pS pR l aa vs := by
  have k1 : ∀ p ∈ [pV, pS, pR, l 0, l 1], ∀ o, H p = some o → H' p = some o := fun p hp o h => f.fr p o h (I.o p hp).2
  refine ⟨hN, I.G, I.row, I.pl, k1 _ (by simp) _ I.hV, k1 _ (by simp) _ I.hS, fun h hh => k1 _ ?_ _ (I.hL h hh), I.nL, I.bL, k1 _ (by simp) _ I.hR, dpAll_ex f.xd _ _ I.dR, fun p hp => ⟨f.nw p (I.o p hp).1 (I.there p hp), fun z => ?_⟩, I.nd⟩
  · have : h = 0 ∨ h = 1 := by omega
    rcases this with rfl | rfl <;> simp
  · rcases f.mm p z with z | z
    · exact (I.o p hp).2 z
    · exact I.there p hp z
theorem two_at (hd2 : hd < 2) : ([V.ref (l 0), V.ref (l 1)] : List V)[hd]? = some (V.ref (l hd)) := by
  have : hd = 0 ∨ hd = 1 := by omega
  rcases this with rfl | rfl <;> rfl
theorem I14.seenE (I : I14 K T M B H nb st many lm pV pS pR l aa vs) (hd2 : hd < 2) (hsv : (aa hd)[n]? = some sv) (h1 : σ[6]? = some (some (V.ref pS)) := by rfl) (h2 : σ[8]? = some (some (V.int (hd : Int))) := by rfl) (h3 : σ[9]? = some (some (V.int (n : Int))) := by rfl) : Ev (tOp (rIx K) (tOp (rIx K) (tVar 6) (tVar 8)) (tVar 9)) σ H (.int sv) :=
  ev_ixV (ev_ixV (ev_var h1) (ev_var h2) I.hS (two_at hd2)) (ev_var h3) (I.hL hd hd2) (by rw [List.getElem?_map, hsv]; rfl)
theorem I14.verE (I : I14 K T M B H nb st many lm pV pS pR l aa vs) (hn : n < many) (h1 : σ[5]? = some (some (V.ref pV)) := by rfl) (h3 : σ[9]? = some (some (V.int (n : Int))) := by rfl) : Ev (tOp (rIx K) (tVar 5) (tVar 9)) σ H (.int ((st.cell n).count : Int)) :=
  ev_ixV (ev_var h1) (ev_var h3) I.hV (by rw [List.getElem?_map, List.getElem?_range hn]; rfl)
end
theorem rep_flat (d : PyData) : ∀ n : Nat, (List.replicate n [d]).flatten = (List.range n).map fun _ => d
  | 0 => rfl
  | n + 1 => by
    rw [List.range_succ, List.map_append, ← rep_flat d n, List.replicate_succ', List.flatten_append]
    rfl
end LC

namespace LC
open PySem PySem.Spec PyProof.Rows L2 Evl
/-! ### drop -/
def dropS (st : NbS) (n : Nat) : NbS := ⟨st.row.erase n, st.cell, st.after⟩
theorem valV_drop {κ : Type} [DecidableEq κ] (k j : κ) : ∀ kvs : List (κ × V), valV (dropK kvs k) j = if j = k then none else valV kvs j
  | [] => by
    show valV ([] : List (κ × V)) j = _
    rw [valV_nil]
    split <;> rfl
  | p :: r => by
    have ih := valV_drop k j r
    by_cases h : p.1 = k
    · have e : dropK (p :: r) k = dropK r k := by
        unfold dropK
        rw [List.filter_cons_of_neg (by simp [h])]
      rw [e, ih]
      by_cases hj : j = k
      · rw [if_pos hj, if_pos hj]
      · rw [if_neg hj, if_neg hj, valV_neg (fun z => hj (by rw [← z, h]))]
    · have e : dropK (p :: r) k = p :: dropK r k := by
        unfold dropK
        rw [List.filter_cons_of_pos (by simp [h])]
      rw [e]
      by_cases hp : p.1 = j
      · rw [valV_pos hp, valV_pos hp, if_neg (fun z => h (by rw [hp, z]))]
      · rw [valV_neg hp, valV_neg hp, ih]
theorem length_dropK {κ : Type} [DecidableEq κ] (kvs : List (κ × V)) (k : κ) : (dropK kvs k).length ≤ kvs.length := List.length_filter_le _ _
theorem mem_dropS {st : NbS} (G : NbG st) {n m : Nat} : m ∈ (dropS st n).row ↔ m ≠ n ∧ m ∈ st.row := List.Nodup.mem_erase_iff G.nd
theorem NbG.drop {st : NbS} (G : NbG st) (n : Nat) : NbG (dropS st n) :=
  ⟨fun m hm => G.good m ((mem_dropS G).mp hm).2, fun m hm => G.lt m ((mem_dropS G).mp hm).2, G.nd.erase n, Nat.le_trans (List.length_erase_le) G.len, G.few, fun m hm => G.cnt m ((mem_dropS G).mp hm).2⟩
theorem NbL.drop {K : Frag} {T : NbC} {M : Addr → Prop} {B H H' : Hp} {nb dn c r : Addr} {st : NbS} {kvs : List (Key × V)} {ad : Nat → Addr} {n : Nat} (L : NbL K T M B H nb st dn c r kvs ad) (G : NbG st)
    (h2 : H' c = some (.dK (dropK kvs (.inl (n : Int))))) (h3 : H' r = some (.lst ((st.row.erase n).map fun n : Nat => V.int (n : Int)))) (h5 : ∀ a o, a ≠ c → a ≠ r → H a = some o → H' a = some o) :
    Fr M M B H H' B ∧ NbL K T M B H' nb (dropS st n) dn c r (dropK kvs (.inl (n : Int))) ad := by
  have bc := (L.m _ L.mc).1
  have br := (L.m _ L.mr).1
  have x' : Ex B H' := fun a o h => h5 a o (fun z => by rw [z, bc] at h; cases h) (fun z => by rw [z, br] at h; cases h) (L.x _ _ h)
  have stay : ∀ a, H a ≠ none → H' a ≠ none := fun a h => by
    by_cases e2 : a = c
    · rw [e2, h2]; exact fun z => nomatch z
    by_cases e3 : a = r
    · rw [e3, h3]; exact fun z => nomatch z
    cases q : H a with
    | none => exact absurd q h
    | some o => rw [h5 a o e2 e3 q]; exact fun z => nomatch z
  refine ⟨⟨fun a o h m => h5 a o (fun z => m (by rw [z]; exact L.mc)) (fun z => m (by rw [z]; exact L.mr)) h, Ex.refl B, x', fun a h _ => h, fun a h => .inl h, fun a h => h, stay⟩, x', fun a h => ⟨(L.m a h).1, stay a (L.m a h).2⟩, h5 _ _ L.ne_nc L.ne_nr L.hn, h2, h3, L.mn, L.mc, L.mr, fun m hm => ?_, fun i hi => ?_, Nat.le_trans (length_dropK _ _) L.kl, fun m hm => L.mad m ((mem_dropS G).mp hm).2, fun m hm => ?_, fun m hm m' hm' => L.inj m ((mem_dropS G).mp hm).2 m' ((mem_dropS G).mp hm').2⟩
  · obtain ⟨h1, h2⟩ := (mem_dropS G).mp hm
    rw [valV_drop, if_neg (fun z => h1 (by have := Sum.inl.inj z; omega))]
    exact L.kin m h2
  · rw [valV_drop]
    by_cases e : i = (n : Int)
    · rw [if_pos (by rw [e])]
    · rw [if_neg (fun z => e (Sum.inl.inj z))]
      exact L.kout i fun m hm z => hi m ((mem_dropS G).mpr ⟨fun q => e (by rw [← z, q]), hm⟩) z
  · obtain ⟨h1, h2'⟩ := (mem_dropS G).mp hm
    exact (L.cells m h2').mono (Ex.refl B) fun o ho => h5 _ o (L.ne_ca h2') (L.ne_ra h2') ho
def R_drop (cB : Addr) (st : NbS) (ds : List PyData) (o : PyData ⊕ Addr) (st' : NbS) : Prop := ∃ d, ds = [d] ∧ ((isCellD st d = false ∧ o = .inr cB ∧ st' = st) ∨ ∃ n ∈ st.row, d = .int ((n : Nat) : Int) ∧ o = .inl .none ∧ st' = dropS st n)
section
variable {K : Frag} {σ : L2.St} {H : Hp} {ta td ty te : TE} {D : Ends} {a : Addr}
theorem kRem {X : Cx} : MtR X "list.remove" rRemI := mt_remove
theorem erase_map {α β : Type} (f : α → β) : ∀ (l : List α) (j : Nat), (l.map f).eraseIdx j = (l.eraseIdx j).map f
  | [], _ => rfl
  | _ :: _, 0 => rfl
  | x :: l, j + 1 => by
    show f x :: (l.map f).eraseIdx j = f x :: (l.eraseIdx j).map f
    rw [erase_map f l j]
/-- xs.remove(n) of a list of numbers, each once -/
theorem s_rem {l : Addr} {xs : List Nat} {n : Nat} (hl : H l = some (.lst (xs.map fun n : Nat => V.int (n : Int)))) (hn : n ∈ xs) (nd : xs.Nodup) (ha : Ev ta σ H (.ref l)) (h : Ev te σ H (.int (n : Int))) (k : ∀ H1, Ex H H1 → D.nx σ (upd H1 l (.lst ((xs.erase n).map fun n : Nat => V.int (n : Int))))) :
    tDrop (tBM K "list" rRemI ta (tCons te tNil)) D σ H := ha H (Ex.refl H) _ fun H1 e1 => ⟨Or.inl ⟨rfl, _, sq_of (e1 l _ hl)⟩, h H1 e1 _ fun H2 e2 => by
  have hj : xs.idxOf n < xs.length := List.idxOf_lt_length_iff.mpr hn
  have hg : xs[xs.idxOf n]? = some n := by rw [List.getElem?_eq_getElem hj, List.getElem_idxOf hj]
  refine ⟨l, xs.map fun n : Nat => (n : Int), (n : Int), xs.idxOf n, rfl, rfl, ?_, ?_, fun m hm z => ?_, ?_⟩
  · rw [List.map_map]
    exact (e1.trans e2) _ _ hl
  · rw [List.getElem?_map, hg]
    rfl
  · rw [List.getElem?_map] at z
    obtain ⟨q, hq, hz⟩ := Option.map_eq_some_iff.mp z
    have e : q = n := by omega
    rw [e] at hq
    have hm' : m < xs.length := by omega
    have h1 : xs[m] = n := by
      rw [List.getElem?_eq_getElem hm'] at hq
      exact Option.some.inj hq
    have h2 := nd.idxOf_getElem m hm'
    rw [h1] at h2
    omega
  · rw [erase_map, List.map_map, ← List.erase_eq_eraseIdx_of_idxOf rfl]
    exact k H2 (e1.trans e2)⟩
/-- d.pop(k) -/
theorem s_pop {kvs : List (Key × V)} {k : Key} {v : V} (ha : H a = some (.dK kvs)) (hd : Ev td σ H (.ref a)) (hy : Ev ty σ H (kV k)) (hv : valV kvs k = some v) (kk : ∀ H1, Ex H H1 → D.nx σ (upd H1 a (.dK (dropK kvs k)))) : tDrop (tDPop1 td ty) D σ H :=
  hd H (Ex.refl H) _ fun H1 e1 => ⟨a, rfl, .inl ⟨kvs, .inl (e1 _ _ ha)⟩, hy H1 e1 _ fun H2 e2 => ⟨kvs, k, v, (e1.trans e2) _ _ ha, rfl, hv, kk H2 (e1.trans e2)⟩⟩
end
end LC

namespace LC
open PySem PySem.Spec PyProof.Rows L2 Evl
section
variable {K : Frag} {σ : L2.St} {H : Hp} {ta te : TE}
theorem ev_index {l : Addr} {xs : List Nat} {n : Nat} (ha : Ev ta σ H (.ref l)) (hl : H l = some (.lst (xs.map fun n : Nat => V.int (n : Int)))) (hn : n ∈ xs) (nd : xs.Nodup) (h : Ev te σ H (.int (n : Int))) : Ev (tBM K "list" (rIndex K) ta (tCons te tNil)) σ H (.int (xs.idxOf n : Int)) := fun H1 e Q q =>
  ha H1 e _ fun H2 e2 => ⟨Or.inl ⟨rfl, _, sq_of (e2 _ _ (e _ _ hl))⟩, h H2 (e.trans e2) _ fun H3 e3 => by
    have hj : xs.idxOf n < xs.length := List.idxOf_lt_length_iff.mpr hn
    have hg : xs[xs.idxOf n]? = some n := by rw [List.getElem?_eq_getElem hj, List.getElem_idxOf hj]
    refine ⟨l, xs.map fun n : Nat => V.int (n : Int), .int (n : Int), xs.idxOf n, .int (n : Int), rfl, rfl, sq_of (((e.trans e2).trans e3) _ _ hl), rfl, ?_, ?_, ?_, fun m z hm hz => ?_, q H3 (e2.trans e3)⟩
    · rw [List.all_eq_true]
      intro v hv
      obtain ⟨m, _, rfl⟩ := List.mem_map.mp hv
      rfl
    · rw [List.getElem?_map, hg]
      rfl
    · exact decide_eq_true rfl
    · rw [List.getElem?_map] at hz
      obtain ⟨w, hw, rfl⟩ := Option.map_eq_some_iff.mp hz
      refine decide_eq_false fun z => ?_
      have hm' : m < xs.length := by omega
      have h1 : xs[m] = w := by
        rw [List.getElem?_eq_getElem hm'] at hw
        exact Option.some.inj hw
      have h2 := nd.idxOf_getElem m hm'
      have e : w = n := by omega
      rw [h1, e] at h2
      omega⟩
end
section
variable {K : Frag} {T : NbC} {M : Addr → Prop} {B H : Hp} {nb : Addr} {st st' : NbS} {σ : L2.St} {ta tb te : TE} {targs : TA} {ds es : List PyData} {d : PyData} {o : PyData ⊕ Addr} {E : L2.St → XK} {m : Str} {D : Ends} {i : Nat}
theorem evb_slT {lo hi : TO} {l h : Option Int} (ha : EvB K ta σ B H (.tuple ds)) (hl : EvO lo σ H l) (hh : EvO hi σ H h) : EvB K (tSl (rSlU K) ta lo hi) σ B H (.tuple (cutD ds l h)) := fun H1 e Q q =>
  ha H1 e _ fun v H2 A g hd => hl H2 (e.trans g.ex) _ fun H3 e3 => hh H3 ((e.trans g.ex).trans e3) _ fun H4 e4 => by
    obtain ⟨a, xs, rfl, hs, hall⟩ := dp_tup hd
    have hl := dpAll_len hall
    have g4 : Gr B H1 H4 A := g.more (e3.trans e4)
    refine .inr (.inl ⟨a, xs, rfl, ex_t g4.d2 hs, fun hw => ?_, fun hw p hp => ?_⟩)
    · rw [hl] at hw
      refine q _ H4 A g4 ?_
      rw [cut_whole hw]
      exact .tup hs hall
    · exact q _ _ _ (g4.new _ hp) (.tup (st_of upd_same) (dpAll_ex (Ex.new (fresh_back g4.d2 hp)) _ _ (cutV_dp hall l h)))
theorem s_fldB {tv : TE} {a C dx : Addr} {fs : List (Str × V)} {f : Str} (hv : EvB K tv σ B H d) (ha : Ev ta σ H (.ref a)) (ho : H a = some (.ins C dx fs)) (c : Cls K C) (n : NoAttr K C f) (hl : fs.length < 1000) (kk : ∀ v H2 Hd, Gr B H H2 Hd → Dt K Hd v d → D.nx σ (upd H2 a (.ins C dx (putF f v fs)))) : sFld K ta tv f D σ H :=
  hv H (Ex.refl H) _ fun v H1 Hd g hd => ha H1 g.ex _ fun H2 e2 => ⟨a, C, dx, fs, rfl, e2 _ _ (g.ex _ _ ho), c, n, hl, kk v H2 Hd (g.more e2) hd⟩
theorem s_metAK {R : NbS → List PyData → (PyData ⊕ Addr) → NbS → Prop} (nf : NoF m) (hs : Ev ta σ H (.ref nb)) (hN : NB K T M B H nb st) (hG : NbG st) (ha : EvBs K targs σ B H ds) (hf : R st ds o st')
    (k1 : ∀ d, o = .inl d → ∀ v H' B' M', Fr M M' B H H' B' → NB K T M' B' H' nb st' → Kept H H' nb st'.row → Dt K B' v d → D.nx (σ.set i (some v)) H') (k2 : ∀ c, o = .inr c → ∀ H' B' M', Fr M M' B H H' B' → NB K T M' B' H' nb st' → E σ (.ref c) none H') : tAsg (tMet T.N m (spNb K T R) E ta targs) (gName i) D σ H := t_metK (Q := fun v H' => D.nx (σ.set i (some v)) H') nf hs hN hG ha hf k1 k2
end
theorem s_ifN {σ : L2.St} {H H0 : Hp} {t : TT} {tu : TS} {D : Ends} {b : Bool} (h : EvT t σ H0 b) (x : Ex H0 H) (k1 : b = true → ∀ H1, Ex H H1 → tu D σ H1) (k2 : b = false → ∀ H1, Ex H H1 → D.nx σ H1) : tIfS t tu tNext D σ H := s_ifD h x k1 k2
/-! ### cut, join -/
def cutS (st : NbS) (n k : Nat) : NbS := setS (setS (putS st (st.row.idxOf n + 1) ((st.cell n).src.drop k)) st.after ⟨(st.cell n).src.drop k, 0, (st.cell n).struck, none⟩) n ⟨(st.cell n).src.take k, (st.cell n).count + 1, (st.cell n).struck, (st.cell n).recd⟩
def R_cut (cC cP cF : Addr) (st : NbS) (ds : List PyData) (o : PyData ⊕ Addr) (st' : NbS) : Prop := ∃ d e, ds = [d, e] ∧
  ((isCellD st d = false ∧ o = .inr cC ∧ st' = st) ∨ ∃ n ∈ st.row, d = .int ((n : Nat) : Int) ∧
    ((isWithin e 0 ((st.cell n).src.length : Int) = false ∧ o = .inr cP ∧ st' = st) ∨ ∃ k : Nat, e = .int (k : Int) ∧ k ≤ (st.cell n).src.length ∧
      ((st.row.length = 30 ∧ o = .inr cF ∧ st' = st) ∨ (st.row.length < 30 ∧ st.after < 5000 ∧ o = .inl (.int (st.after : Int)) ∧ st' = cutS st n k))))
def joinS (st : NbS) (n m : Nat) : NbS := dropS (setS st n ⟨(st.cell n).src ++ (st.cell m).src, (st.cell n).count + 1, (st.cell n).struck, (st.cell n).recd⟩) m
def nextOf (st : NbS) (n : Nat) : List Nat := (st.row.drop (st.row.idxOf n + 1)).take 1
def R_join (cC cX cS : Addr) (st : NbS) (ds : List PyData) (o : PyData ⊕ Addr) (st' : NbS) : Prop := ∃ d e, ds = [d, e] ∧
  ((isCellD st d = false ∧ o = .inr cC ∧ st' = st) ∨ (isCellD st d = true ∧ isCellD st e = false ∧ o = .inr cC ∧ st' = st) ∨ ∃ n ∈ st.row, ∃ m ∈ st.row, d = .int ((n : Nat) : Int) ∧ e = .int ((m : Nat) : Int) ∧
    (((nextOf st n ≠ [m] ∨ (st.cell n).struck ≠ (st.cell m).struck) ∧ o = .inr cX ∧ st' = st) ∨ (nextOf st n = [m] ∧ (st.cell n).struck = (st.cell m).struck ∧
      ((8 < (st.cell n).src.length + (st.cell m).src.length ∧ o = .inr cS ∧ st' = st) ∨ ((st.cell n).src.length + (st.cell m).src.length ≤ 8 ∧ (st.cell n).count < 5000 ∧ o = .inl .none ∧ st' = joinS st n m)))))
theorem goodS_drop {src : Src} (h : goodS src = true) (k : Nat) : goodS (src.drop k) = true := by
  unfold goodS at h ⊢
  rw [Bool.and_eq_true] at h ⊢
  refine ⟨decide_eq_true ?_, ?_⟩
  · have := of_decide_eq_true h.1
    rw [List.length_drop]
    omega
  · rw [List.all_eq_true] at *
    exact fun r hr => h.2 r (List.mem_of_mem_drop hr)
theorem goodS_take {src : Src} (h : goodS src = true) (k : Nat) : goodS (src.take k) = true := by
  unfold goodS at h ⊢
  rw [Bool.and_eq_true] at h ⊢
  refine ⟨decide_eq_true ?_, ?_⟩
  · have := of_decide_eq_true h.1
    rw [List.length_take]
    omega
  · have h2 := List.all_eq_true.mp h.2
    rw [List.all_eq_true]
    exact fun r hr => h2 r (List.mem_of_mem_take hr)
end LC

namespace LC
open PySem PySem.Spec PyProof.Rows L2 Evl
section
variable {K : Frag} {σ : L2.St} {B H H' : Hp} {ta tb te : TE} {d e z : PyData} {ds es : List PyData}
/-- two operands in a row, with a part for the data -/
theorem evb_op {r : R2} (ha : EvB K ta σ B H d) (hb : EvB K tb σ B H e) (hr : ∀ x y H1 A, Ex A H1 → Dt K A x d → Dt K A y e → ∀ Q : VK, (∀ v H2 C, Gr A H1 H2 C → Dt K C v z → Q v H2) → r x y H1 Q) : EvB K (tOp r ta tb) σ B H z := fun H1 e1 Q q =>
  ha H1 e1 _ fun x H2 A g hx => hb H2 (e1.trans g.ex) _ fun y H3 C g2 hy => hr x y H3 _ (g.join g2).d2 (dp_ex join_l _ _ hx) (dp_ex (join_r (g.d2.trans g2.ex) g2.d2) _ _ hy) Q fun v H4 C2 g3 hv => q v H4 C2
    ⟨(g.ex.trans g2.ex).trans g3.ex, (g.join g2).xd.trans g3.xd, g3.d2, fun a h0 h1 => g3.fr a ((g.join g2).fr a h0 h1) (ne_none (g.ex.trans g2.ex) h1)⟩ hv
theorem evb_addT (ha : EvB K ta σ B H (.tuple ds)) (hb : EvB K tb σ B H (.tuple es)) (hl : ds.length + es.length ≤ 100000) : EvB K (tOp (rAddU K) ta tb) σ B H (.tuple (ds ++ es)) := evb_op ha hb fun x y H1 A e hx hy Q q => by
  obtain ⟨a, xs, rfl, hs, h1⟩ := dp_tup hx
  obtain ⟨b, ys, rfl, ht, h2⟩ := dp_tup hy
  refine .inr (.inr (.inr ⟨a, b, xs, ys, rfl, rfl, ex_t e hs, ex_t e ht, by rw [dpAll_len h1, dpAll_len h2]; exact sz_of hl, fun z => ?_, fun _ z => ?_, fun _ _ p hp => ?_⟩))
  · subst z
    cases h1
    exact q _ H1 A (Gr.base e (Ex.refl H1)) (.tup ht h2)
  · subst z
    cases h2
    rw [List.append_nil] at q
    exact q _ H1 A (Gr.base e (Ex.refl H1)) (.tup hs h1)
  · exact q _ _ _ ((Gr.base e (Ex.refl H1)).new _ hp) (.tup (st_of upd_same) (dpAll_ex (Ex.new (fresh_back e hp)) _ _ (dpAll_app h1 h2)))
theorem evb_slL {lo hi : TO} {l h : Option Int} (ha : EvB K ta σ B H (.list ds)) (hl : EvO lo σ H l) (hh : EvO hi σ H h) : EvB K (tSl (rSlU K) ta lo hi) σ B H (.list (cutD ds l h)) := fun H1 e Q q =>
  ha H1 e _ fun v H2 A g hd => hl H2 (e.trans g.ex) _ fun H3 e3 => hh H3 ((e.trans g.ex).trans e3) _ fun H4 e4 => by
    obtain ⟨a, xs, rfl, hs, hall⟩ := dp_lst hd
    have g4 : Gr B H1 H4 A := g.more (e3.trans e4)
    exact .inl ⟨a, xs, rfl, sq_of (g4.d2 _ _ hs), fun p hp => q _ _ _ (g4.new _ hp) (.lst upd_same (dpAll_ex (Ex.new (fresh_back g4.d2 hp)) _ _ (cutV_dp hall l h)))⟩
end
theorem cut_mid (ds : List PyData) (a b : Nat) (h : a ≤ b) : cutD ds (some (a : Int)) (some (b : Int)) = (ds.drop a).take (b - a) := by
  unfold cutD
  rw [HT.sIx_nat, HT.sIx_nat]
  by_cases ha : a ≤ ds.length
  · rw [Nat.min_eq_left ha]
    by_cases hb : b ≤ ds.length
    · rw [Nat.min_eq_left hb]
    · rw [Nat.min_eq_right (by omega), List.take_of_length_le (by rw [List.length_drop]; omega), List.take_of_length_le (by rw [List.length_drop]; omega)]
  · rw [List.drop_eq_nil_of_le (as := ds) (i := a) (by omega), List.drop_eq_nil_of_le (as := ds) (i := min a ds.length) (by omega)]
    simp
theorem eqv_ints : ∀ l m : List Int, PyData.eqv (.list (l.map PyData.int)) (.list (m.map PyData.int)) = decide (l = m)
  | [], [] => rfl
  | [], _ :: _ => rfl
  | _ :: _, [] => rfl
  | x :: l, y :: m => by
    have ih := eqv_ints l m
    have e : PyData.eqv (.list ((x :: l).map PyData.int)) (.list ((y :: m).map PyData.int)) = ((x == y) && PyData.eqv (.list (l.map PyData.int)) (.list (m.map PyData.int))) := by
      simp only [List.map_cons, PyData.eqv, PyData.eqvAll]
    rw [e, ih, Bool.eq_iff_iff]
    simp
/-! ### join -/
theorem source_app {a b : Src} (ha : goodS a = true) (hb : goodS b = true) : isSource (encS (a ++ b)) = decide (a.length + b.length ≤ 8) := by
  show (decide (((a ++ b).map Rw.enc).length ≤ 8) && ((a ++ b).map Rw.enc).all isRow) = _
  have h : ((a ++ b).map Rw.enc).all isRow = true := by
    rw [List.all_eq_true]
    intro d hd
    obtain ⟨r, hr, rfl⟩ := List.mem_map.mp hd
    rcases List.mem_append.mp hr with h | h
    · exact isRow_enc r (goodS_row ha h)
    · exact isRow_enc r (goodS_row hb h)
  rw [h, Bool.and_true, List.length_map, List.length_append]
theorem ok_app {a b : Src} (ha : goodS a = true) (hb : goodS b = true) : okD (encS (a ++ b)) = true := by
  refine ok_tup_of fun d hd => ?_
  obtain ⟨r, hr, rfl⟩ := List.mem_map.mp hd
  rcases List.mem_append.mp hr with h | h
  · exact ok_row r (goodS_row ha h)
  · exact ok_row r (goodS_row hb h)
theorem enc_app (a b : Src) : PyData.tuple (a.map Rw.enc ++ b.map Rw.enc) = encS (a ++ b) := by
  rw [← List.map_append]
  rfl
theorem goodS_app {a b : Src} (ha : goodS a = true) (hb : goodS b = true) (hl : a.length + b.length ≤ 8) : goodS (a ++ b) = true := by
  unfold goodS at *
  rw [Bool.and_eq_true] at *
  refine ⟨decide_eq_true (by rw [List.length_append]; exact hl), ?_⟩
  rw [List.all_append, ha.2, hb.2]
  rfl
theorem next_ne (st : NbS) (n m : Nat) (hn : n ∈ st.row) : PyData.eqv (.list (cutD (st.row.map fun n : Nat => PyData.int (n : Int)) (some ((st.row.idxOf n : Int) + 1)) (some ((st.row.idxOf n : Int) + 2)))) (.list [.int (m : Int)]) = decide (nextOf st n = [m]) := by
  have e := cut_mid (st.row.map fun n : Nat => PyData.int (n : Int)) (st.row.idxOf n + 1) (st.row.idxOf n + 2) (by omega)
  have e1 : ((st.row.idxOf n : Int) + 1) = ((st.row.idxOf n + 1 : Nat) : Int) := by omega
  have e2 : ((st.row.idxOf n : Int) + 2) = ((st.row.idxOf n + 2 : Nat) : Int) := by omega
  rw [e1, e2, e, ← List.map_drop, ← List.map_take]
  have e3 : st.row.idxOf n + 2 - (st.row.idxOf n + 1) = 1 := by omega
  rw [e3]
  show PyData.eqv (.list ((nextOf st n).map fun n : Nat => PyData.int (n : Int))) _ = _
  have := eqv_ints ((nextOf st n).map fun n : Nat => (n : Int)) [(m : Int)]
  rw [List.map_map] at this
  refine Eq.trans this ?_
  rw [Bool.eq_iff_iff]
  simp only [decide_eq_true_eq]
  constructor
  · intro h
    cases hx : nextOf st n with
    | nil => rw [hx] at h; cases h
    | cons x l =>
      rw [hx] at h
      rw [List.map_cons] at h
      injection h with h1 h2
      have h2 : l = [] := List.map_eq_nil_iff.mp h2
      rw [h2]
      congr 1
      exact Int.ofNat.inj h1
  · intro h
    rw [h]
    rfl
end LC

namespace LC
open PySem PySem.Spec PyProof.Rows L2 Evl
/-! ### sorted(list of ints), list(range) -/
def sortL (ns : List Int) : List Int := ns.mergeSort fun a b => decide (a ≤ b)
theorem sortL_eq {ns ns' : List Int} (h : ns'.Perm ns) (p : ns'.Pairwise (· ≤ ·)) : ns' = sortL ns := by
  refine (h.trans (List.mergeSort_perm _ _).symm).eq_of_pairwise (le := fun a b => a ≤ b) (fun x y _ _ h1 h2 => by omega) p ?_
  refine (List.pairwise_mergeSort ?_ ?_ ns).imp fun h => of_decide_eq_true h
  · intro a b c h1 h2
    exact decide_eq_true (by have := of_decide_eq_true h1; have := of_decide_eq_true h2; omega)
  · intro a b
    simp only [Bool.or_eq_true, decide_eq_true_eq]
    omega
theorem kSortL {X : Cx} {K : Frag} (h : X.K = K) : CallR X (.builtin "sorted") (rSorted K) := h ▸ cr_sorted
section
variable {K : Frag} {σ : L2.St} {B H : Hp} {te tb ta : TE}
theorem evd_sortL {ns : List Int} (h : EvD K te σ H (.list (ns.map PyData.int))) (hl : ns.length < 64) : EvD K (tCB (rSorted K) (tCons te tNil)) σ H (.list ((sortL ns).map PyData.int)) := fun H1 e Q q =>
  h H1 e _ fun v H2 A g hd => by
    obtain ⟨a, xs, rfl, hs, hall⟩ := dp_lst hd
    have ex : xs = ns.map V.int := ints_inv hall
    subst ex
    refine ⟨a, ns, rfl, sq_of (g.d2 _ _ hs), hl, fun ns' p hp pw hn => ?_⟩
    rw [sortL_eq hp pw]
    exact q _ _ _ (g.new _ hn) (.lst upd_same (dt_ints _))
theorem evd_lstRg {n : Nat} (hn : n ≤ 1000) (h : EvD K te σ H (.int (n : Int))) : EvD K (tLstRg (tRg1 te)) σ H (.list ((List.range n).map fun i : Nat => PyData.int (i : Int))) := fun H1 e Q q =>
  h H1 e _ fun v H2 A g hd => by
    rw [dp_int hd]
    refine ⟨_, rfl, ⟨by omega, by omega, by omega, by omega, by omega⟩, fun p hp => ?_⟩
    have e : rgV 0 (n : Int) = (List.range n).map fun i : Nat => V.int (i : Int) := by
      unfold rgV
      simp
    rw [e]
    refine q _ _ _ (g.new _ hp) (.lst upd_same ?_)
    have := dt_ints (K := K) (H := upd A p (.lst ((List.range n).map fun i : Nat => V.int (i : Int)))) ((List.range n).map fun i : Nat => (i : Int))
    rw [List.map_map, List.map_map] at this
    exact this
/-! ### tests that call what changes -/
theorem tt_op {r : R2} {Q : Bool → Hp → Prop} (h : ta σ H fun x H1 => tb σ H1 fun y H2 => r x y H2 fun z H3 => ∃ b, z = .bl b ∧ Q b H3) : tTest (tOp r ta tb) σ H Q := h
theorem k_ne {v : V} {d e : PyData} {Q : Bool → Hp → Prop} (hv : Dt K B v d) (x : Ex B H) (hb : EvB K tb σ B H e) (sd : SeqAt.shaped d = true) (se : SeqAt.shaped e = true) (k : ∀ H2, Ex H H2 → Q (!PyData.eqv d e) H2) :
    tb σ H fun y H2 => rNeD K v y H2 fun z H3 => ∃ b, z = .bl b ∧ Q b H3 := hb H (Ex.refl H) _ fun y H2 Hd g hd => ⟨d, e, dt_dp _ _ (dp_ex (x.trans g.ex) _ _ hv), dt_dp _ _ (dp_ex g.d2 _ _ hd), sd, se, _, rfl, k H2 g.ex⟩
theorem k_eq {v : V} {d e : PyData} {Q : Bool → Hp → Prop} (hv : Dt K B v d) (x : Ex B H) (hb : EvB K tb σ B H e) (sd : SeqAt.shaped d = true) (se : SeqAt.shaped e = true) (k : ∀ H2, Ex H H2 → Q (PyData.eqv d e) H2) :
    tb σ H fun y H2 => rEqD K v y H2 fun z H3 => ∃ b, z = .bl b ∧ Q b H3 := hb H (Ex.refl H) _ fun y H2 Hd g hd => ⟨d, e, dt_dp _ _ (dp_ex (x.trans g.ex) _ _ hv), dt_dp _ _ (dp_ex g.d2 _ _ hd), sd, se, _, rfl, k H2 g.ex⟩
end
theorem s_or1 {t u : TT} {tu tw : TS} {D : Ends} {σ : L2.St} {H : Hp} (h : t σ H fun c H1 => if c = true then tu D σ H1 else u σ H1 fun b H2 => if b = true then tu D σ H2 else tw D σ H2) : tIfS (tOr t u) tu tw D σ H := h
theorem s_seqP {t u : TS} {D : Ends} {σ : L2.St} {H : Hp} (P : L2.St → Hp → Prop) (fin : ∀ σ H, P σ H → u D σ H) (k : (∀ σ H, P σ H → u D σ H) → t { D with nx := u D } σ H) : tSeq t u D σ H := k fin
theorem cutD_len (ds : List PyData) (l h : Option Int) : (cutD ds l h).length ≤ ds.length := by
  unfold cutD
  rw [List.length_take, List.length_drop]
  omega
theorem cut_upto (ds : List PyData) (n : Nat) : cutD ds none (some (n : Int)) = ds.take n := by
  unfold cutD
  rw [HT.sIx_none, HT.sIx_nat, List.drop_zero, Nat.sub_zero]
  by_cases h : n ≤ ds.length
  · rw [Nat.min_eq_left h]
  · rw [Nat.min_eq_right (by omega), List.take_of_length_le (Nat.le_refl _), List.take_of_length_le (by omega)]
/-! ### mix -/
def mixF (c p m : Int) : Int := (c * 48271 % p) ^ 3 % p % m
def F_mix (ds : List PyData) (d : PyData) : Prop := ∃ c p m : Int, ds = [.int c, .int p, .int m] ∧ 0 < p ∧ p < 1000000 ∧ 0 < m ∧ d = .int (mixF c p m)
theorem mix_lt {c p m : Int} (h : 0 < m) : 0 ≤ mixF c p m ∧ mixF c p m < m := by
  unfold mixF
  exact ⟨Int.emod_nonneg _ (by omega), Int.emod_lt_of_pos _ h⟩
/-! ### cut keeps the state good -/
theorem mem_cutS {st : NbS} {n k m : Nat} : m ∈ (cutS st n k).row ↔ m = st.after ∨ m ∈ st.row := mem_putS (src := (st.cell n).src.drop k)
theorem NbG.cut {st : NbS} (G : NbG st) {n k : Nat} (hn : n ∈ st.row) (hl : st.row.length < 30) (hf : st.after < 5000) (hc : (st.cell n).count < 5000) : NbG (cutS st n k) := by
  have hg := G.good n hn
  refine NbG.setS (NbG.setS (G.put (goodS_drop hg k) hl hf) (goodS_drop hg k) (Nat.zero_le _)) (goodS_take hg k) ?_
  show (st.cell n).count + 1 ≤ 5000
  omega
theorem cutS_len {st : NbS} {n k : Nat} : (cutS st n k).row.length = st.row.length + 1 := by
  show (st.row.take _ ++ [st.after] ++ st.row.drop _).length = _
  rw [List.length_append, List.length_append, List.length_take, List.length_drop, List.length_singleton]
  omega
theorem putS_len {st : NbS} {i : Nat} {src : Src} : (putS st i src).row.length = st.row.length + 1 := by
  show (st.row.take _ ++ [st.after] ++ st.row.drop _).length = _
  rw [List.length_append, List.length_append, List.length_take, List.length_drop, List.length_singleton]
  omega
/-- all numbers below after are there -/
theorem pigeon : ∀ (k : Nat) (row : List Nat), row.Nodup → (∀ n ∈ row, n < k) → row.length ≤ k
  | 0, row, _, lt => by
    cases row with
    | nil => exact Nat.le_refl _
    | cons a l => exact absurd (lt a (List.mem_cons_self ..)) (by omega)
  | k + 1, row, nd, lt => by
    have ih := pigeon k (row.erase k) (nd.erase k) fun n hn => by
      have h := (List.Nodup.mem_erase_iff nd).mp hn
      have := lt n h.2
      have := h.1
      omega
    have := List.length_erase (a := k) (l := row)
    split at this <;> omega
theorem row_all {row : List Nat} {k : Nat} (nd : row.Nodup) (lt : ∀ n ∈ row, n < k) (len : row.length = k) {m : Nat} (hm : m < k) : m ∈ row := by
  refine Classical.byContradiction fun h => ?_
  have := pigeon k (m :: row) (List.nodup_cons.mpr ⟨h, nd⟩) fun n hn => by
    rcases List.mem_cons.mp hn with rfl | hn
    · exact hm
    · exact lt n hn
  rw [List.length_cons] at this
  omega
theorem row_full {row : List Nat} {k : Nat} (nd : row.Nodup) (lt : ∀ n ∈ row, n < k) (len : row.length = k) : row.Perm (List.range k) :=
  (List.perm_ext_iff_of_nodup nd List.nodup_range).mpr fun m => ⟨fun h => List.mem_range.mpr (lt m h), fun h => row_all nd lt len (List.mem_range.mp h)⟩
theorem sort_perm {row : List Nat} {k : Nat} (h : row.Perm (List.range k)) : sortL (row.map fun n : Nat => (n : Int)) = (List.range k).map fun n : Nat => (n : Int) := by
  refine (sortL_eq (h.symm.map _) ?_).symm
  rw [List.pairwise_map]
  exact List.pairwise_lt_range.imp fun h => by omega
/-! ### k19 -/
def rowsS (m : Nat) : Src := (List.range m).map fun k : Nat => Rw.shw (.num (k : Int))
theorem rowsS_good {m : Nat} (h : m ≤ 8) : goodS (rowsS m) = true := by
  unfold goodS rowsS
  rw [Bool.and_eq_true]
  refine ⟨decide_eq_true (by rw [List.length_map, List.length_range]; exact h), ?_⟩
  rw [List.all_map, List.all_eq_true]
  intro k hk
  have := List.mem_range.mp hk
  simp [Rw.good, Sm.good, Sm.depth, Function.comp]
  omega
theorem rowsS_len (m : Nat) : (rowsS m).length = m := by unfold rowsS; rw [List.length_map, List.length_range]
theorem rows2_good {m : Nat} (h : m ≤ 8) : goodS (rowsS m ++ (rowsS m).take (8 - m)) = true :=
  goodS_app (rowsS_good h) (goodS_take (rowsS_good h) _) (by rw [List.length_take, rowsS_len]; omega)
theorem shN (l : List Nat) : SeqAt.shaped (.list (l.map fun n : Nat => PyData.int (n : Int))) = true := by
  refine shaped_of (ok_lst_of fun d hd => ?_) (Nat.le_trans (depth_list (n := 0) fun d hd => ?_) (by decide))
  · obtain ⟨q, _, rfl⟩ := List.mem_map.mp hd
    rfl
  · obtain ⟨q, _, rfl⟩ := List.mem_map.mp hd
    exact Nat.le_refl _
theorem eqv_self {d : PyData} (h : SeqAt.shaped d = true) : PyData.eqv d d = true := SeqAt.eqv_refl _ (SeqAt.canLay_of_shaped h)
theorem atI_m2 {α : Type} (l : List α) (x y : α) : atI (l ++ [x, y]) (-2) = some x := by
  have e : ixN (l ++ [x, y]).length (-2) = some l.length := by
    unfold ixN
    rw [List.length_append]
    show (if (0 : Int) ≤ -2 then _ else if -((l.length + 2 : Nat) : Int) ≤ -2 then some ((-2 : Int) + ((l.length + 2 : Nat) : Int)).toNat else none) = some l.length
    rw [if_neg (by decide), if_pos (by omega)]
    congr 1
    omega
  unfold atI
  rw [e]
  simp
theorem next_end {t0 : List Nat} {x y : Nat} (nd : (t0 ++ [x, y]).Nodup) : ((t0 ++ [x, y]).drop ((t0 ++ [x, y]).idxOf x + 1)).take 1 = [y] := by
  have hx : x ∉ t0 := fun h => by
    rw [List.nodup_append] at nd
    exact nd.2.2 x h x (by simp) rfl
  have e : (t0 ++ [x, y]).idxOf x = t0.length := by
    rw [List.idxOf_append]
    rw [if_neg hx]
    simp
  rw [e]
  simp
structure I19 (st : NbS) (k : Nat) : Prop where
  G : NbG st
  len : st.row.length = k
  af : st.after = k
  pl : ∀ n ∈ st.row, (st.cell n).struck = false ∧ (st.cell n).count ≤ k
theorem I19.st0 : I19 st0 0 := ⟨NbG.st0, rfl, rfl, fun _ h => nomatch h⟩
theorem I19.all {st : NbS} {k m : Nat} (I : I19 st k) (h : m < k) : m ∈ st.row := row_all I.G.nd (fun n hn => by have := I.G.lt n hn; rw [I.af] at this; exact this) I.len h
theorem I19.put {st : NbS} {k i : Nat} {src : Src} (I : I19 st k) (hk : k < 30) (hg : goodS src = true) : I19 (putS st i src) (k + 1) := by
  have hna : st.after ∉ st.row := fun h => by have := I.G.lt _ h; omega
  refine ⟨I.G.put hg (by rw [I.len]; exact hk) (by rw [I.af]; omega), by rw [putS_len, I.len], by show st.after + 1 = _; rw [I.af], fun n hn => ?_⟩
  show (if n = st.after then newCell src else st.cell n).struck = false ∧ (if n = st.after then newCell src else st.cell n).count ≤ k + 1
  rcases mem_putS.mp hn with h | h
  · rw [if_pos h]
    exact ⟨rfl, Nat.zero_le _⟩
  · rw [if_neg (fun z : n = st.after => hna (z ▸ h))]
    have := I.pl n h
    exact ⟨this.1, by omega⟩
theorem I19.cut {st : NbS} {k n j : Nat} (I : I19 st k) (hk : k < 30) (hn : n ∈ st.row) : I19 (cutS st n j) (k + 1) := by
  have hna : st.after ∉ st.row := fun h => by have := I.G.lt _ h; omega
  have pn := I.pl n hn
  refine ⟨I.G.cut hn (by rw [I.len]; exact hk) (by rw [I.af]; omega) (by omega), by rw [cutS_len, I.len], by show st.after + 1 = _; rw [I.af], fun m hm => ?_⟩
  unfold cutS LC.setS
  dsimp only
  by_cases e1 : m = n
  · rw [if_pos e1]
    exact ⟨pn.1, by dsimp only; omega⟩
  · rw [if_neg e1]
    by_cases e2 : m = st.after
    · rw [if_pos e2]
      exact ⟨pn.1, Nat.zero_le _⟩
    · rw [if_neg e2]
      rcases mem_cutS.mp hm with h | h
      · exact absurd h e2
      · have := I.pl m h
        show (if m = st.after then _ else st.cell m).struck = false ∧ (if m = st.after then _ else st.cell m).count ≤ _
        rw [if_neg e2]
        exact ⟨this.1, by omega⟩
end LC
/-! The text by places: printed by gen.py -/
namespace K19
open PySem PySem.Spec PyProof.Rows L2
def top (i : Nat) : Stmt := PySem.Challenge.pw_leancells_k19_full.main.body.getD i (.Pass ⟨0, 0, 0, 0⟩)
abbrev s_wall : Stmt := top 0
abbrev s_is_within : Stmt := top 16
abbrev s_is_name : Stmt := top 17
abbrev s_is_sum : Stmt := top 18
abbrev s_is_row : Stmt := top 19
abbrev s_is_source : Stmt := top 20
abbrev s_look : Stmt := top 21
abbrev s_sets_of : Stmt := top 22
abbrev s_Failed_init : Stmt := inClass (top 24) 0
abbrev s_reckoned : Stmt := top 25
abbrev s_worth : Stmt := top 26
abbrev s_done : Stmt := top 27
abbrev s_Record_init : Stmt := inClass (top 30) 0
abbrev s_Cell_init : Stmt := inClass (top 31) 0
abbrev s_Notebook_init : Stmt := inClass (top 32) 0
abbrev s_Notebook_look_cell : Stmt := inClass (top 32) 1
abbrev s_Notebook_look_live : Stmt := inClass (top 32) 2
abbrev s_Notebook_look_place : Stmt := inClass (top 32) 3
abbrev s_Notebook_put : Stmt := inClass (top 32) 4
abbrev s_Notebook_change : Stmt := inClass (top 32) 5
abbrev s_Notebook_move : Stmt := inClass (top 32) 6
abbrev s_Notebook_drop : Stmt := inClass (top 32) 7
abbrev s_Notebook_strike : Stmt := inClass (top 32) 8
abbrev s_Notebook_cut : Stmt := inClass (top 32) 9
abbrev s_Notebook_join : Stmt := inClass (top 32) 10
abbrev s_Notebook_setter : Stmt := inClass (top 32) 11
abbrev s_Notebook_holds : Stmt := inClass (top 32) 12
abbrev s_Notebook_last_told : Stmt := inClass (top 32) 13
abbrev s_Notebook_fresh : Stmt := inClass (top 32) 14
abbrev s_Notebook_state : Stmt := inClass (top 32) 15
abbrev s_Notebook_demand : Stmt := inClass (top 32) 16
abbrev s_Notebook_stands : Stmt := inClass (top 32) 17
abbrev s_Notebook_told : Stmt := inClass (top 32) 18
abbrev s_Notebook_asker : Stmt := inClass (top 32) 19
abbrev s_Notebook_run : Stmt := inClass (top 32) 20
abbrev s_Notebook_run_all : Stmt := inClass (top 32) 21
abbrev s_Notebook_numbers : Stmt := inClass (top 32) 22
abbrev s_Notebook_source : Stmt := inClass (top 32) 23
abbrev s_Notebook_version : Stmt := inClass (top 32) 24
abbrev s_Notebook_view : Stmt := inClass (top 32) 25
abbrev s_Notebook_leans : Stmt := inClass (top 32) 26
abbrev s_law_cell : Stmt := top 34
abbrev s_law_mix : Stmt := top 35
abbrev s_law : Stmt := top 36
/-! The head: facts by names, the run of the top -/
def d_is_within : He.DefD := ⟨("is_within", none), "is_within", "is_within", defArgs s_is_within, defBody s_is_within, defScope s_is_within, [], []⟩
def d_is_name : He.DefD := ⟨("is_name", none), "is_name", "is_name", defArgs s_is_name, defBody s_is_name, defScope s_is_name, [], []⟩
def d_is_sum : He.DefD := ⟨("is_sum", none), "is_sum", "is_sum", defArgs s_is_sum, defBody s_is_sum, defScope s_is_sum, [], []⟩
def d_is_row : He.DefD := ⟨("is_row", none), "is_row", "is_row", defArgs s_is_row, defBody s_is_row, defScope s_is_row, [], []⟩
def d_is_source : He.DefD := ⟨("is_source", none), "is_source", "is_source", defArgs s_is_source, defBody s_is_source, defScope s_is_source, [], []⟩
def d_look : He.DefD := ⟨("look", none), "look", "look", defArgs s_look, defBody s_look, defScope s_look, [], []⟩
def d_Cell_init : He.DefD := ⟨("Cell", some "__init__"), "__init__", "Cell.__init__", defArgs s_Cell_init, defBody s_Cell_init, defScope s_Cell_init, [], []⟩
def d_Notebook_init : He.DefD := ⟨("Notebook", some "__init__"), "__init__", "Notebook.__init__", defArgs s_Notebook_init, defBody s_Notebook_init, defScope s_Notebook_init, [], []⟩
def d_Notebook_look_cell : He.DefD := ⟨("Notebook", some "look_cell"), "look_cell", "Notebook.look_cell", defArgs s_Notebook_look_cell, defBody s_Notebook_look_cell, defScope s_Notebook_look_cell, [], []⟩
def d_Notebook_look_place : He.DefD := ⟨("Notebook", some "look_place"), "look_place", "Notebook.look_place", defArgs s_Notebook_look_place, defBody s_Notebook_look_place, defScope s_Notebook_look_place, [], []⟩
def d_Notebook_put : He.DefD := ⟨("Notebook", some "put"), "put", "Notebook.put", defArgs s_Notebook_put, defBody s_Notebook_put, defScope s_Notebook_put, [], []⟩
def d_Notebook_drop : He.DefD := ⟨("Notebook", some "drop"), "drop", "Notebook.drop", defArgs s_Notebook_drop, defBody s_Notebook_drop, defScope s_Notebook_drop, [], []⟩
def d_Notebook_cut : He.DefD := ⟨("Notebook", some "cut"), "cut", "Notebook.cut", defArgs s_Notebook_cut, defBody s_Notebook_cut, defScope s_Notebook_cut, [], []⟩
def d_Notebook_join : He.DefD := ⟨("Notebook", some "join"), "join", "Notebook.join", defArgs s_Notebook_join, defBody s_Notebook_join, defScope s_Notebook_join, [], []⟩
def d_Notebook_numbers : He.DefD := ⟨("Notebook", some "numbers"), "numbers", "Notebook.numbers", defArgs s_Notebook_numbers, defBody s_Notebook_numbers, defScope s_Notebook_numbers, [], []⟩
def d_Notebook_source : He.DefD := ⟨("Notebook", some "source"), "source", "Notebook.source", defArgs s_Notebook_source, defBody s_Notebook_source, defScope s_Notebook_source, [], []⟩
def d_law_cell : He.DefD := ⟨("_law_cell", none), "_law_cell", "_law_cell", defArgs s_law_cell, defBody s_law_cell, defScope s_law_cell, [], []⟩
def d_law_mix : He.DefD := ⟨("_law_mix", none), "_law_mix", "_law_mix", defArgs s_law_mix, defBody s_law_mix, defScope s_law_mix, [], []⟩
def d_law : He.DefD := ⟨("law", none), "law", "law", defArgs s_law, defBody s_law, defScope s_law, [], []⟩
def fnL : List He.DefD := [d_is_within, d_is_name, d_is_sum, d_is_row, d_is_source, d_look, d_Cell_init, d_Notebook_init, d_Notebook_look_cell, d_Notebook_look_place, d_Notebook_put, d_Notebook_drop, d_Notebook_cut, d_Notebook_join, d_Notebook_numbers, d_Notebook_source, d_law_cell, d_law_mix, d_law]
def faL : List He.Fa := [.glo "_wall", .glo "is_within", .glo "is_name", .glo "is_sum", .glo "is_row", .glo "is_source", .glo "look", .glo "sets_of", .glo "reckoned", .glo "worth", .glo "done", .glo "_law_cell", .glo "_law_mix", .glo "law", .glo "Record", .cls "Record", .noat "Record" "lines", .noat "Record" "asked", .noat "Record" "shown", .noat "Record" "sets", .noat "Record" "why", .glo "Cell", .cls "Cell", .noat "Cell" "lines", .noat "Cell" "count", .noat "Cell" "struck", .noat "Cell" "record", .glo "Notebook", .cls "Notebook", .noat "Notebook" "cells", .noat "Notebook" "row", .noat "Notebook" "after", .mkr "Cell", .mkr "Notebook", .meth "Notebook" "look_cell", .meth "Notebook" "look_place", .meth "Notebook" "put", .meth "Notebook" "drop", .meth "Notebook" "cut", .meth "Notebook" "join", .meth "Notebook" "numbers", .meth "Notebook" "source", .glo "LeanError", .exc "LeanError", .glo "BadSource", .exc "BadSource", .glo "BadNumber", .exc "BadNumber", .glo "NoCell", .exc "NoCell", .glo "Struck", .exc "Struck", .glo "NotNext", .exc "NotNext", .glo "Full", .exc "Full", .str "__name__" "law_leancells_k19_full", .str "SMALL" "abcdefghijklmnopqrstuvwxyz", .int "ROUND" 10000, .int "MOST_ROWS" 8, .int "MOST_DEEP" 6, .glo "WORDS", .glo "BARRED", .int "MOST_CELLS" 30, .free "len", .free "isinstance", .free "range", .free "tuple", .free "sorted", .free "set", .free "int", .free "str", .free "bool", .free "list", .free "min", .free "zip", .free "enumerate", .free "dict", .free "ValueError", .exm "Full" "Full" true, .exm "BadSource" "BadSource" true]
def exB (K : PySem.W.Frag) : Bool := He.tupB K "WORDS" [.str "add", .str "less", .str "times", .str "over", .str "same"] && He.tupB K "BARRED" [.str "add", .str "less", .str "times", .str "over", .str "same", .str "if", .str "set", .str "show"] && true
abbrev R : PySem.W.OpenRow := PySem.W.OpenLaw.row PySem.Challenge.rw_leancells_k19_full
abbrev hk : PySem.W.Hook := He.hookX 7 faL fnL [] [] exB
def ob (s : PySem.W.SharedT) : He.AlX := He.obsX 7 faL fnL [] [] exB (HandSHeadRun.getT s)
theorem ob_eq (s : PySem.W.SharedT) : ob s = hk.obs s.abs := He.obsX_eq (HandSHeadRun.getT_eq s)
def loose0 : List PySem.Str := ["_wall", "LeanError", "BadSource", "BadNumber", "NoCell", "Struck", "NotNext", "Full", "SMALL", "ROUND", "MOST_ROWS", "MOST_DEEP", "WORDS", "BARRED", "is_within", "is_name", "is_sum", "is_row", "is_source", "look", "sets_of", "Failed", "reckoned", "worth", "done", "MOST_CELLS", "Record", "Cell", "Notebook", "_law_cell"]
def loose1 : List PySem.Str := ["_law_mix"]
def looseL : List PySem.Str := loose0 ++ loose1
theorem run (w : World) : HandSHeadRun.RunEq R (PySem.W.view R.prog [36]) hk ob 6000 looseL w := by
  intro os
  kernel_rfl
open LC Evl
section
variable {P : Program} {w : World} {K : PySem.W.Frag} {mg : Str → Option Value} {base : Heap}
theorem sc_is_within : FnScope ["thing", "low", "high"] ["thing", "low", "high"] (defScope s_is_within) := ⟨rfl, rfl, rfl, by decide +kernel, rfl, by decide +kernel, by decide +kernel⟩
theorem ok_is_within {f : Addr} {fd : FuncData} (F : FnP K "is_within" "is_within" s_is_within f fd) (g : mg "is_within" = some (.ref f)) (T : Tx mg)  : Has P w K mg base CX0 1 "is_within" ["thing", "low", "high"] (spD K F_is_within) := by
  have nd := (sc_is_within).nd
  refine has_d (FF := F_is_within) F g (F.bindsN fun _ _ _ _ _ _ us hl => match us, hl with | [_, _, _], _ => rfl) sc_is_within (by rintro _ _ ⟨_, _, _, rfl, _⟩; rfl) (fun cdv A outer s H vs Q E ds d H0 hr x hd hf k => ?_)
  obtain ⟨a, lo, hi, rfl, rfl⟩ := hf
  obtain ⟨v0, v1, v2, rfl, d0, d1, d2⟩ := dts3 hd
  refine ⟨_, (pss_one (ps_ret (pe_and (pe_callB (kIsi (K := K) rfl) rfl (T.free (by decide)) boot_isinstance (pa_cons (pv 0) (pa_cons (pe_bltn (v := .ty "int") rfl (T.free (by decide)) boot_int rfl) pa_nil))) (pe_and (kNot (K := K) rfl (pe_callB (kIsi (K := K) rfl) rfl (T.free (by decide)) boot_isinstance (pa_cons (pv 0) (pa_cons (pe_bltn (v := .ty "bool") rfl (T.free (by decide)) boot_bool rfl) pa_nil)))) (pe_one (pe_chain op_le op_le (pv 1) (pv 0) (pv 2))))))), ?_⟩
  refine s_retD (d := .bool (isWithin a lo hi)) (evd_is (d := .bool (isT a "int" && (!isT a "bool" && isWithin a lo hi))) (evd_b (ev_andV (ev_isi (evd_var d0) (by decide)) fun e1 => ev_andV (ev_notB (ev_isi (evd_var d0) (by decide))) fun e2 => ?_)) (congrArg PyData.bool (within_eq a lo hi))) x k
  obtain ⟨i, rfl⟩ : ∃ i, a = .int i := by
    cases a <;> simp [isT, tyN] at e1 e2
    exact ⟨_, rfl⟩
  exact ev_chain (K := K) (p := fun i j => decide (i ≤ j)) (q := fun i j => decide (i ≤ j)) (evd_var d1) (evd_var d0) (evd_var d2)
theorem sc_is_name : FnScope ["thing", "sign"] ["thing"] (defScope s_is_name) := ⟨rfl, rfl, rfl, by decide +kernel, rfl, by decide +kernel, by decide +kernel⟩
theorem ok_is_name {f : Addr} {fd : FuncData} (F : FnP K "is_name" "is_name" s_is_name f fd) (g : mg "is_name" = some (.ref f)) (T : Tx mg) (m_SMALL : ∃ t, mg "SMALL" = some (.str smallS t)) {a_BARRED : Addr} (m_BARRED : mg "BARRED" = some (.ref a_BARRED)) (b_BARRED : ∀ H, Dt K H (.ref a_BARRED) (.tuple (barredS.map PyData.str))) : Has P w K mg base CX0 1 "is_name" ["thing"] (spD K F_is_name) := by
  have nd := (sc_is_name).nd
  refine has_d (FF := F_is_name) F g (F.bindsN fun _ _ _ _ _ _ us hl => match us, hl with | [_], _ => rfl) sc_is_name (by rintro _ _ ⟨_, rfl, _⟩; rfl) (fun cdv A outer s H vs Q E ds d H0 hr x hd hf k => ?_)
  obtain ⟨a, rfl, ok, rfl⟩ := hf
  obtain ⟨v0, rfl, d0⟩ := dts1 hd
  refine ⟨_, (pss_cons (ps_if (PW.pt (pw_or (pt_not (kTruth (K := K) rfl (pe_callB (kIsi (K := K) rfl) rfl (T.free (by decide)) boot_isinstance (pa_cons (pv 0) (pa_cons (pe_bltn (v := .ty "str") rfl (T.free (by decide)) boot_str rfl) pa_nil))))) (pw_or (pt_not (pt_chain op_le op_le pe_int (pe_callB (kLen (K := K) rfl) rfl (T.free (by decide)) boot_len (pa_cons (pv 0) pa_nil)) pe_int)) (pw_or1 (pt_cmpR (kIn (K := K) rfl) (pv 0) (pe_gref m_BARRED) rfl))))) (pss_one (ps_ret pe_bl)) pss_nil)
      (pss_one (ps_ret (kNot (K := K) rfl (pe_lc (own := [("sign", 1)]) rfl nd (kSeq (K := K) rfl (pv 0)) (blkOk_by (N := ["thing", "sign"]) (sc := defScope s_is_name) (own := [("sign", 1)]) (by decide +kernel)) (fun _ _ _ _ _ => (pg_name (i := 1) nd rfl (Or.inl rfl))) (fun _ _ _ _ _ => (pts_one (pt_cmpR (kNotIn (K := K) rfl) (pv 1) (pe_gstr m_SMALL) rfl))) (fun _ _ _ _ _ => (pv 1))))))), ?_⟩
  cases hT : isT a "str" with
  | false =>
    refine s_ifD (b := true) (et_or (a := true) (b := true) (et_not (a := false) (et_is (et_b (ev_isi (evd_var d0) (by decide))) hT)) fun z => nomatch z) x (fun _ H1 e1 => ?_) fun z => nomatch z
    refine s_retD (evd_is evd_bl ?_) (x.trans e1) fun v H2 Hd g => k v H2 Hd (g.after e1)
    cases a <;> first | rfl | simp [isT, tyN] at hT
  | true =>
    obtain ⟨z, rfl⟩ := isT_str hT
    have hz := ok_str ok
    have hB : ∀ H1, Dt K H1 (.ref a_BARRED) (.tuple (barredS.map PyData.str)) := fun H1 => b_BARRED H1
    refine s_ifD (b := !(decide ((1 : Int) ≤ (z.length : Int)) && decide ((z.length : Int) ≤ 4)) || decide (z ∈ barredS)) (et_or (a := false) (et_not (a := true) (et_is (et_b (ev_isi (evd_var d0) (by decide))) hT)) fun _ => et_or (et_not (et_chain (K := K) (p := fun i j => decide (i ≤ j)) (q := fun i j => decide (i ≤ j)) evd_int (evd_i (ev_lenS (evd_var d0) (sz_of hz))) evd_int))
      fun _ => et_is (et_test (ev_inT (neg := false) (evd_var d0) (evd_ref (hB _)) rfl (flat_strs _))) (by simp [inD_str])) x (fun hb H1 e1 => ?_) fun hb H1 e1 => ?_
    · refine s_retD (evd_is evd_bl ?_) (x.trans e1) fun v H2 Hd g => k v H2 Hd (g.after e1)
      refine congrArg PyData.bool (Eq.symm ?_)
      show nameS z = false
      unfold nameS
      rw [Bool.or_eq_true] at hb
      rcases hb with hb | hb
      · have q : (decide (1 ≤ z.length) && decide (z.length ≤ 4)) = false := by
          rw [Bool.not_eq_true', Bool.and_eq_false_iff] at hb
          rw [Bool.and_eq_false_iff]
          simp only [decide_eq_false_iff_not] at hb ⊢
          omega
        rw [q, Bool.false_and]
      · rw [hb]
        simp
    · rw [Bool.or_eq_false_iff, Bool.not_eq_false'] at hb
      have hl : (decide (1 ≤ z.length) && decide (z.length ≤ 4)) = true := by
        have := hb.1
        rw [Bool.and_eq_true] at this ⊢
        simp only [decide_eq_true_eq] at this ⊢
        omega
      have hl4 : z.length ≤ 4 := by
        rw [Bool.and_eq_true] at hl
        exact of_decide_eq_true hl.2
      refine s_retD (d := .bool (nameS z)) (evd_is (evd_b (ev_notD (evd_lcS (fun c => !decide (c ∈ smallS.cps.toList)) (fun c => .str ⟨#[c]⟩) (evd_var d0) (by omega) (fun _ => rfl) (fun c H1 _ _ => et_test (ev_inS (neg := true) (evd_var (.str _)) (evd_str (x := smallS)))) fun c H1 _ _ _ => evd_var (.str _)) (ok_lst_of ?_))) (congrArg PyData.bool ?_)) (x.trans e1) fun v H2 Hd g => k v H2 Hd (g.after e1)
      · intro d hd
        obtain ⟨c, hc, rfl⟩ := List.mem_map.mp hd
        exact ok_sign ok (List.mem_filter.mp hc).1
      · unfold nameS
        rw [hl, hb.2, Bool.true_and, Bool.not_false, Bool.true_and]
        show (!(!(List.map _ _).isEmpty)) = _
        rw [Bool.not_not, List.isEmpty_map, Bool.eq_iff_iff, List.isEmpty_iff, List.filter_eq_nil_iff, List.all_eq_true]
        simp
theorem sc_is_sum : FnScope ["thing", "deep", "part"] ["thing", "deep"] (defScope s_is_sum) := ⟨rfl, rfl, rfl, by decide +kernel, rfl, by decide +kernel, by decide +kernel⟩
theorem step_is_sum {f : Addr} {fd : FuncData} (F : FnP K "is_sum" "is_sum" s_is_sum f fd) (g : mg "is_sum" = some (.ref f)) (T : Tx mg) (n : Nat) {a_WORDS : Addr} (m_WORDS : mg "WORDS" = some (.ref a_WORDS)) (b_WORDS : ∀ H, Dt K H (.ref a_WORDS) (.tuple (wordsS.map PyData.str))) (h_is_sum : Has P w K mg base CX0 (n + 1) "is_sum" ["thing", "deep"] (spD K (Fprev F_is_sum n))) (h_is_within : Has P w K mg base CX0 1 "is_within" ["thing", "low", "high"] (spD K F_is_within)) (m_ROUND : ∃ t, mg "ROUND" = some (.int 10000 t)) (h_is_name : Has P w K mg base CX0 1 "is_name" ["thing"] (spD K F_is_name)) : HasF P w K mg base CX0 (n + 2) "is_sum" ["thing", "deep"] (spD K (F_is_sum n)) f fd := by
  have nd := (sc_is_sum).nd
  refine hasF_d (FF := F_is_sum n) F g (F.bindsN fun _ _ _ _ _ _ us hl => match us, hl with | [_, _], _ => rfl) sc_is_sum (by rintro _ _ ⟨_, rfl, _⟩; rfl) (fun cdv A outer s H vs Q E ds d H0 hr x hd hf k => ?_)
  obtain ⟨a, rfl, ok, rfl⟩ := hf
  obtain ⟨v0, v1, rfl, d0, d1⟩ := dts2 hd
  refine ⟨_, (pss_cons (ps_if (kTruth (K := K) rfl (pe_callB (kIsi (K := K) rfl) rfl (T.free (by decide)) boot_isinstance (pa_cons (pv 0) (pa_cons (pe_bltn (v := .ty "str") rfl (T.free (by decide)) boot_str rfl) pa_nil)))) (pss_one (ps_ret (pe_has h_is_name hr (by omega) rfl pass0 (pa_cons (pv 0) pa_nil)))) pss_nil)
      (pss_cons (ps_if (pt_not (kTruth (K := K) rfl (pe_callB (kIsi (K := K) rfl) rfl (T.free (by decide)) boot_isinstance (pa_cons (pv 0) (pa_cons (pe_bltn (v := .ty "tuple") rfl (T.free (by decide)) boot_tuple rfl) pa_nil))))) (pss_one (ps_ret (pe_has h_is_within hr (by omega) rfl pass0 (pa_cons (pv 0) (pa_cons pe_int (pa_cons (pe_op op_sub (pe_gint m_ROUND) pe_int) pa_nil)))))) pss_nil)
      (pss_cons (ps_if (PW.pt (pw_or (pt_cmpR op_lt (pv 1) pe_int (nomark _)) (pw_or (pt_not (kTruth (K := K) rfl (pv 0))) (pw_or1 (pt_not (kTruth (K := K) rfl (pe_callB (kIsi (K := K) rfl) rfl (T.free (by decide)) boot_isinstance (pa_cons (pe_ix (kIx (K := K) rfl) (pv 0) pe_int (fun _ _ => rfl)) (pa_cons (pe_bltn (v := .ty "str") rfl (T.free (by decide)) boot_str rfl) pa_nil))))))))) (pss_one (ps_ret pe_bl)) pss_nil)
      (pss_cons (ps_if (PW.pt (pw_or (PW.pt (pw_and (pt_cmpR (kIn (K := K) rfl) (pe_ix (kIx (K := K) rfl) (pv 0) pe_int (fun _ _ => rfl)) (pe_gref m_WORDS) rfl) (pw_and1 (pt_cmpR (kEq (K := K) rfl hr.units) (pe_callB (kLen (K := K) rfl) rfl (T.free (by decide)) boot_len (pa_cons (pv 0) pa_nil)) pe_int (nomark _))))) (pw_or1 (PW.pt (pw_and (pt_cmpR (kEq (K := K) rfl hr.units) (pe_ix (kIx (K := K) rfl) (pv 0) pe_int (fun _ _ => rfl)) pe_str (nomark _)) (pw_and1 (pt_cmpR (kEq (K := K) rfl hr.units) (pe_callB (kLen (K := K) rfl) rfl (T.free (by decide)) boot_len (pa_cons (pv 0) pa_nil)) pe_int (nomark _)))))))) (pss_one (ps_ret (kNot (K := K) rfl (pe_lc (own := [("part", 2)]) rfl nd (kSeq (K := K) rfl (pe_slice (kSl (K := K) rfl) (pv 0) (po_some pe_int) po_none)) (blkOk_by (N := ["thing", "deep", "part"]) (sc := defScope s_is_sum) (own := [("part", 2)]) (by decide +kernel)) (fun _ _ _ _ _ => (pg_name (i := 2) nd rfl (Or.inl rfl))) (fun _ _ _ _ _ => (pts_one (pt_not (kTruth (K := K) rfl (pe_has h_is_sum hr (by omega) rfl pass0 (pa_cons (pv 2) (pa_cons (pe_op op_sub (pv 1) pe_int) pa_nil))))))) (fun _ _ _ _ _ => (pv 2)))))) pss_nil)
      (pss_one (ps_ret pe_bl)))))), ?_⟩
  have k : Rt K H0 H (.bool (isSum n a)) Q := k
  cases hS : isT a "str" with
  | true =>
    refine s_yes (et_is (et_b (ev_isi (evd_var d0) (by decide))) hS) x fun H1 e1 => ?_
    refine (k.go e1).ret (x.trans e1) (evd_call (eds_cons (evd_var d0) eds_nil) ⟨_, rfl, ok, rfl⟩) ?_
    obtain ⟨z, rfl⟩ := isT_str hS
    cases n <;> rfl
  | false =>
    refine s_nay (et_is (et_b (ev_isi (evd_var d0) (by decide))) hS) x fun H1 e1 => ?_
    cases hT : isT a "tuple" with
    | false =>
      refine s_yes (et_not (a := false) (et_is (et_b (ev_isi (evd_var d0) (by decide))) hT)) (x.trans e1) fun H2 e2 => ?_
      refine ((k.go e1).go e2).ret ((x.trans e1).trans e2) (evd_call (eds_cons (evd_var d0) (eds_cons evd_int (eds_cons (evd_i (ev_I0 (K := K) evd_int evd_int)) eds_nil))) ⟨_, _, _, rfl, rfl⟩) ?_
      rw [isSum_nontup hS hT]
      rfl
    | true =>
      refine s_nay (et_not (a := true) (et_is (et_b (ev_isi (evd_var d0) (by decide))) hT)) (x.trans e1) fun H2 e2 => ?_
      obtain ⟨ds, rfl⟩ := isT_tup hT
      have x2 := (x.trans e1).trans e2
      have k2 := (k.go e1).go e2
      have no : ∀ {H3 : Hp}, Ex H2 H3 → isSum n (.tuple ds) = false → tRet (tC (.bl false)) { nx := fun _ H' => Q .non H', rt := Q } (start ["thing", "deep", "part"] [v0, v1]) H3 := fun e3 z => (k2.go e3).ret (x2.trans e3) evd_bl (congrArg PyData.bool z.symm)
      cases n with
      | zero =>
        refine s_yes (et_or (a := true) (b := true) (et_test (ev_is (ev_I0 (K := K) (evd_var d1) evd_int) rfl)) fun z => nomatch z) x2 fun H3 e3 => no e3 (by simp [isSum])
      | succ m =>
        have t1 : EvT (tTest (tOp (rI0 fun i j => V.bl (decide (i < j))) (tVar 1) (tC (.int 1)))) (start ["thing", "deep", "part"] [v0, v1]) H0 false := et_test (ev_is (ev_I0 (K := K) (evd_var d1) evd_int) (by show V.bl (decide (((m + 1 : Nat) : Int) < 1)) = _; rw [decide_eq_false (by omega)]))
        cases ds with
        | nil =>
          refine s_yes (et_or (a := false) (b := true) t1 fun _ => et_or (a := true) (b := true) (et_not (a := false) (et_d (evd_var d0) ok)) fun z => nomatch z) x2 fun H3 e3 => no e3 ?_
          rfl
        | cons w r =>
          have i0 : EvD K (tOp (rIx K) (tVar 0) (tC (.int 0))) (start ["thing", "deep", "part"] [v0, v1]) H0 w := evd_ixT (evd_var d0) evd_int (atI_0 _ _)
          cases hw : isT w "str" with
          | false =>
            refine s_yes (et_or (a := false) (b := true) t1 fun _ => et_or (a := false) (b := true) (et_not (a := true) (et_d (evd_var d0) ok)) fun _ => et_not (a := false) (et_is (et_b (ev_isi i0 (by decide))) hw)) x2 fun H3 e3 => no e3 ?_
            cases w <;> first | rfl | simp [isT, tyN] at hw
          | true =>
            obtain ⟨z, rfl⟩ := isT_str hw
            refine s_nay (et_or (a := false) (b := false) t1 fun _ => et_or (a := false) (b := false) (et_not (a := true) (et_d (evd_var d0) ok)) fun _ => et_not (a := true) (et_is (et_b (ev_isi i0 (by decide))) hw)) x2 fun H3 e3 => ?_
            have okz : SeqAt.shaped (PyData.str z) = true := shapedS (ok_tup ok (List.mem_cons_self ..))
            have hW : ∀ H1, Dt K H1 (.ref a_WORDS) (.tuple (wordsS.map PyData.str)) := fun H1 => b_WORDS H1
            have len : ∀ q : Int, Ev (tOp (rEqD K) (tCB (rLenU K) (tCons (tVar 0) tNil)) (tC (.int q))) (start ["thing", "deep", "part"] [v0, v1]) H0 (.bl (((r.length + 1 : Nat) : Int) == q)) := fun q => ev_eq (evd_i (ev_lenT (evd_var d0))) evd_int rfl rfl
            refine s_ifD (b := sumHead z (r.length + 1)) (et_is (et_or (et_and (et_test (ev_inT (neg := false) i0 (evd_ref (hW _)) rfl (flat_strs _))) fun _ => et_test (len 3)) fun _ => et_and (et_test (ev_eq i0 evd_str okz (by decide +kernel))) fun _ => et_test (len 4)) ?_) (x2.trans e3) (fun hb H4 e4 => ?_) fun hb H4 e4 => ?_
            · unfold sumHead
              rw [show (if false = true then _ else inD (PyData.str z) (wordsS.map PyData.str)) = inD (PyData.str z) (wordsS.map PyData.str) from rfl, inD_str]
              have e3 : (((r.length + 1 : Nat) : Int) == 3) = (r.length + 1 == 3) := by rw [Bool.eq_iff_iff]; simp; omega
              have e4 : (((r.length + 1 : Nat) : Int) == 4) = (r.length + 1 == 4) := by rw [Bool.eq_iff_iff]; simp; omega
              rw [e3, e4]
              rfl
            · have hlen : r.length ≤ 3 := by
                unfold sumHead at hb
                simp at hb
                omega
              have sl : EvD K (tSl (rSlU K) (tVar 0) (tPart (tC (.int 1))) tNoPart) (start ["thing", "deep", "part"] [v0, v1]) H0 (.tuple r) := evd_is (evd_slT (evd_var d0) (eo_i (K := K) evd_int) eo_none) (congrArg PyData.tuple (cut_tail _ _))
              refine ((k2.go e3).go e4).ret ((x2.trans e3).trans e4) (evd_b (ev_notD (evd_lcT (fun d => !isSum m d) id sl (by omega) (fun _ => rfl) (fun v d H5 _ hm hv => et_not (et_b (ev_bl (evd_call (eds_cons (evd_var hv) (eds_cons (evd_i (ev_is (ev_I0 (K := K) (evd_var (d := .int ((m + 1 : Nat) : Int)) ?_) evd_int) ?_)) eds_nil)) ⟨d, rfl, ok_tup ok (List.mem_cons_of_mem _ hm), rfl⟩)))) fun v d H5 _ _ _ hv => evd_var hv) (ok_lst_of ?_))) (congrArg PyData.bool ?_)
              · exact dp_ex (by assumption) _ _ d1
              · show V.int (((m + 1 : Nat) : Int) - 1) = V.int (m : Int)
                congr 1
                omega
              · intro d hd
                rw [List.map_id] at hd
                exact ok_tup ok (List.mem_cons_of_mem _ (List.mem_filter.mp hd).1)
              · show (!(!(List.map id (r.filter fun d => !isSum m d)).isEmpty)) = (sumHead z (r.length + 1) && r.all (isSum m))
                rw [hb, Bool.true_and, Bool.not_not, List.isEmpty_map, Bool.eq_iff_iff, List.isEmpty_iff, List.filter_eq_nil_iff, List.all_eq_true]
                simp
            · refine no (e3.trans e4) ?_
              show (sumHead z (r.length + 1) && _) = false
              rw [hb, Bool.false_and]
theorem all_is_sum {f : Addr} {fd : FuncData} (F : FnP K "is_sum" "is_sum" s_is_sum f fd) (g : mg "is_sum" = some (.ref f)) (T : Tx mg) {a_WORDS : Addr} (m_WORDS : mg "WORDS" = some (.ref a_WORDS)) (b_WORDS : ∀ H, Dt K H (.ref a_WORDS) (.tuple (wordsS.map PyData.str)))  (h_is_within : Has P w K mg base CX0 1 "is_within" ["thing", "low", "high"] (spD K F_is_within)) (m_ROUND : ∃ t, mg "ROUND" = some (.int 10000 t)) (h_is_name : Has P w K mg base CX0 1 "is_name" ["thing"] (spD K F_is_name)) : ∀ n : Nat, HasF P w K mg base CX0 (n + 2) "is_sum" ["thing", "deep"] (spD K (F_is_sum n)) f fd
  | 0 => step_is_sum F g T 0 (h_is_sum := has_never F g (F.bindsN fun _ _ _ _ _ _ us hl => match us, hl with | [_, _], _ => rfl) _ fun _ _ z => z) (m_WORDS := m_WORDS) (b_WORDS := b_WORDS) (h_is_within := h_is_within) (m_ROUND := m_ROUND) (h_is_name := h_is_name)
  | n + 1 => step_is_sum F g T (n + 1) (h_is_sum := (all_is_sum F g T (m_WORDS := m_WORDS) (b_WORDS := b_WORDS) (h_is_within := h_is_within) (m_ROUND := m_ROUND) (h_is_name := h_is_name) n).has) (m_WORDS := m_WORDS) (b_WORDS := b_WORDS) (h_is_within := h_is_within) (m_ROUND := m_ROUND) (h_is_name := h_is_name)
theorem ok_is_sum {f : Addr} {fd : FuncData} (F : FnP K "is_sum" "is_sum" s_is_sum f fd) (g : mg "is_sum" = some (.ref f)) (T : Tx mg) {a_WORDS : Addr} (m_WORDS : mg "WORDS" = some (.ref a_WORDS)) (b_WORDS : ∀ H, Dt K H (.ref a_WORDS) (.tuple (wordsS.map PyData.str)))  (h_is_within : Has P w K mg base CX0 1 "is_within" ["thing", "low", "high"] (spD K F_is_within)) (m_ROUND : ∃ t, mg "ROUND" = some (.int 10000 t)) (h_is_name : Has P w K mg base CX0 1 "is_name" ["thing"] (spD K F_is_name)) : Has P w K mg base CX0 8 "is_sum" ["thing", "deep"] (spD K (F_is_sum 6)) :=
  (all_is_sum F g T (m_WORDS := m_WORDS) (b_WORDS := b_WORDS) (h_is_within := h_is_within) (m_ROUND := m_ROUND) (h_is_name := h_is_name) 6).has
theorem sc_is_row : FnScope ["thing"] ["thing"] (defScope s_is_row) := ⟨rfl, rfl, rfl, by decide +kernel, rfl, by decide +kernel, by decide +kernel⟩
theorem ok_is_row {f : Addr} {fd : FuncData} (F : FnP K "is_row" "is_row" s_is_row f fd) (g : mg "is_row" = some (.ref f)) (T : Tx mg) (h_is_sum : Has P w K mg base CX0 8 "is_sum" ["thing", "deep"] (spD K (F_is_sum 6))) (m_MOST_DEEP : ∃ t, mg "MOST_DEEP" = some (.int 6 t)) (h_is_name : Has P w K mg base CX0 1 "is_name" ["thing"] (spD K F_is_name)) : Has P w K mg base CX0 9 "is_row" ["thing"] (spD K F_is_row) := by
  have nd := (sc_is_row).nd
  refine has_d (FF := F_is_row) F g (F.bindsN fun _ _ _ _ _ _ us hl => match us, hl with | [_], _ => rfl) sc_is_row (by rintro _ _ ⟨_, rfl, _⟩; rfl) (fun cdv A outer s H vs Q E ds d H0 hr x hd hf k => ?_)
  obtain ⟨a, rfl, ok, rfl⟩ := hf
  obtain ⟨v0, rfl, d0⟩ := dts1 hd
  refine ⟨_, (pss_cons (ps_if (PW.pt (pw_or (pt_not (kTruth (K := K) rfl (pe_callB (kIsi (K := K) rfl) rfl (T.free (by decide)) boot_isinstance (pa_cons (pv 0) (pa_cons (pe_bltn (v := .ty "tuple") rfl (T.free (by decide)) boot_tuple rfl) pa_nil))))) (pw_or (pt_not (kTruth (K := K) rfl (pv 0))) (pw_or1 (pt_not (kTruth (K := K) rfl (pe_callB (kIsi (K := K) rfl) rfl (T.free (by decide)) boot_isinstance (pa_cons (pe_ix (kIx (K := K) rfl) (pv 0) pe_int (fun _ _ => rfl)) (pa_cons (pe_bltn (v := .ty "str") rfl (T.free (by decide)) boot_str rfl) pa_nil))))))))) (pss_one (ps_ret pe_bl)) pss_nil)
      (pss_cons (ps_if (pt_cmpR (kEq (K := K) rfl hr.units) (pe_ix (kIx (K := K) rfl) (pv 0) pe_int (fun _ _ => rfl)) pe_str (nomark _)) (pss_one (ps_ret (pe_and (pe_cmpR (kEq (K := K) rfl hr.units) (pe_callB (kLen (K := K) rfl) rfl (T.free (by decide)) boot_len (pa_cons (pv 0) pa_nil)) pe_int (nomark _)) (pe_one (pe_has h_is_sum hr (by omega) rfl pass0 (pa_cons (pe_ix (kIx (K := K) rfl) (pv 0) pe_int (fun _ _ => rfl)) (pa_cons (pe_gint m_MOST_DEEP) pa_nil))))))) pss_nil)
      (pss_one (ps_ret (pe_and (pe_cmpR (kEq (K := K) rfl hr.units) (pe_ix (kIx (K := K) rfl) (pv 0) pe_int (fun _ _ => rfl)) pe_str (nomark _)) (pe_and (pe_cmpR (kEq (K := K) rfl hr.units) (pe_callB (kLen (K := K) rfl) rfl (T.free (by decide)) boot_len (pa_cons (pv 0) pa_nil)) pe_int (nomark _)) (pe_and (pe_has h_is_name hr (by omega) rfl pass0 (pa_cons (pe_ix (kIx (K := K) rfl) (pv 0) pe_int (fun _ _ => rfl)) pa_nil)) (pe_one (pe_has h_is_sum hr (by omega) rfl pass0 (pa_cons (pe_ix (kIx (K := K) rfl) (pv 0) pe_int (fun _ _ => rfl)) (pa_cons (pe_gint m_MOST_DEEP) pa_nil))))))))))), ?_⟩
  have k : Rt K H0 H (.bool (isRow a)) Q := k
  have no : ∀ {H3 : Hp}, Ex H H3 → isRow a = false → tRet (tC (.bl false)) { nx := fun _ H' => Q .non H', rt := Q } (start ["thing"] [v0]) H3 := fun e3 z => (k.go e3).ret (x.trans e3) evd_bl (congrArg PyData.bool z.symm)
  cases hT : isT a "tuple" with
  | false =>
    refine s_yes (et_or (a := true) (b := true) (et_not (a := false) (et_is (et_b (ev_isi (evd_var d0) (by decide))) hT)) fun z => nomatch z) x fun H1 e1 => no e1 ?_
    cases a <;> first | rfl | simp [isT, tyN] at hT
  | true =>
    obtain ⟨ds, rfl⟩ := isT_tup hT
    cases ds with
    | nil =>
      refine s_yes (et_or (a := false) (b := true) (et_not (a := true) (et_is (et_b (ev_isi (evd_var d0) (by decide))) hT)) fun _ => et_or (a := true) (b := true) (et_not (a := false) (et_d (evd_var d0) ok)) fun z => nomatch z) x fun H1 e1 => no e1 rfl
    | cons w r =>
      have i0 : EvD K (tOp (rIx K) (tVar 0) (tC (.int 0))) (start ["thing"] [v0]) H0 w := evd_ixT (evd_var d0) evd_int (atI_0 _ _)
      cases hw : isT w "str" with
      | false =>
        refine s_yes (et_or (a := false) (b := true) (et_not (a := true) (et_is (et_b (ev_isi (evd_var d0) (by decide))) hT)) fun _ => et_or (a := false) (b := true) (et_not (a := true) (et_d (evd_var d0) ok)) fun _ => et_not (a := false) (et_is (et_b (ev_isi i0 (by decide))) hw)) x fun H1 e1 => no e1 ?_
        cases w <;> first | rfl | simp [isT, tyN] at hw
      | true =>
        obtain ⟨z, rfl⟩ := isT_str hw
        refine s_nay (et_or (a := false) (b := false) (et_not (a := true) (et_is (et_b (ev_isi (evd_var d0) (by decide))) hT)) fun _ => et_or (a := false) (b := false) (et_not (a := true) (et_d (evd_var d0) ok)) fun _ => et_not (a := true) (et_is (et_b (ev_isi i0 (by decide))) hw)) x fun H1 e1 => ?_
        have okz : SeqAt.shaped (PyData.str z) = true := shapedS (ok_tup ok (List.mem_cons_self ..))
        have len : ∀ q : Int, Ev (tOp (rEqD K) (tCB (rLenU K) (tCons (tVar 0) tNil)) (tC (.int q))) (start ["thing"] [v0]) H0 (.bl (((r.length + 1 : Nat) : Int) == q)) := fun q => ev_eq (evd_i (ev_lenT (evd_var d0))) evd_int rfl rfl
        refine s_ifD (b := decide (z = "show")) (et_is (et_test (ev_eq i0 evd_str okz (by decide +kernel))) ?_) (x.trans e1) (fun hb H2 e2 => ?_) fun hb H2 e2 => ?_
        · show (z == ("show" : Str)) = decide (z = "show")
          rw [Bool.eq_iff_iff]; simp
        · have ez : z = "show" := of_decide_eq_true hb
          subst ez
          cases hr2 : (((r.length + 1 : Nat) : Int) == 2) with
          | false =>
            refine ((k.go e1).go e2).ret ((x.trans e1).trans e2) (evd_b (ev_andV (a := false) (b := true) (ev_is (len 2) (by rw [hr2])) fun z => nomatch z)) (congrArg PyData.bool ?_)
            match r with
            | [] => rfl
            | [_] => simp at hr2
            | [b, c] => show (false && true) = (decide (("show" : Str) = "set") && (isName b && isSum 6 c)); rw [decide_eq_false (by decide +kernel)]; rfl
            | _ :: _ :: _ :: _ => rfl
          | true =>
            obtain ⟨b, rfl⟩ : ∃ b, r = [b] := by
              match r with
              | [] => simp at hr2
              | [b] => exact ⟨b, rfl⟩
              | _ :: _ :: _ => simp at hr2 <;> omega
            refine ((k.go e1).go e2).ret ((x.trans e1).trans e2) (evd_b (ev_andV (a := true) (b := isSum 6 b) (ev_is (len 2) (by rw [hr2])) fun _ => ev_bl (evd_call (eds_cons (evd_ixT (evd_var d0) evd_int (atI_1 _ _ _)) (eds_cons evd_int eds_nil)) ⟨b, rfl, ok_tup ok (by simp), rfl⟩))) (congrArg PyData.bool ?_)
            show (true && isSum 6 b) = (decide (("show" : Str) = "show") && isSum 6 b)
            rw [decide_eq_true rfl]
        · have nz : ¬ z = "show" := of_decide_eq_false hb
          cases hz : decide (z = "set") with
          | false =>
            refine ((k.go e1).go e2).ret ((x.trans e1).trans e2) (evd_b (ev_andV (a := false) (b := true) (ev_is (ev_eq i0 evd_str okz (by decide +kernel)) ?_) fun z => nomatch z)) (congrArg PyData.bool ?_)
            · show V.bl (z == ("set" : Str)) = V.bl false
              rw [← hz]; rfl
            · match r with
              | [] => rfl
              | [b] => show (false && true) = (decide (z = "show") && isSum 6 b); rw [hb]; rfl
              | [b, c] => show (false && true) = (decide (z = "set") && (isName b && isSum 6 c)); rw [hz]; rfl
              | _ :: _ :: _ :: _ => rfl
          | true =>
            have e0 : V.bl (PyData.eqv (.str z) (.str "set")) = V.bl true := by
              show V.bl (z == ("set" : Str)) = V.bl true
              rw [← hz]; rfl
            cases hr2 : (((r.length + 1 : Nat) : Int) == 3) with
            | false =>
              refine ((k.go e1).go e2).ret ((x.trans e1).trans e2) (evd_b (ev_andV (a := true) (b := false) (ev_is (ev_eq i0 evd_str okz (by decide +kernel)) e0) fun _ => ev_andV (a := false) (b := true) (ev_is (len 3) (by rw [hr2])) fun z => nomatch z)) (congrArg PyData.bool ?_)
              match r with
              | [] => rfl
              | [b] => show (true && (false && true)) = (decide (z = "show") && isSum 6 b); rw [hb]; rfl
              | [_, _] => simp at hr2
              | _ :: _ :: _ :: _ => rfl
            | true =>
              obtain ⟨b, c, rfl⟩ : ∃ b c, r = [b, c] := by
                match r with
                | [] => simp at hr2
                | [b] => simp at hr2
                | [b, c] => exact ⟨b, c, rfl⟩
                | _ :: _ :: _ :: _ => simp at hr2 <;> omega
              refine ((k.go e1).go e2).ret ((x.trans e1).trans e2) (evd_b (ev_andV (a := true) (b := isName b && isSum 6 c) (ev_is (ev_eq i0 evd_str okz (by decide +kernel)) e0) fun _ => ev_andV (a := true) (b := isName b && isSum 6 c) (ev_is (len 3) (by rw [hr2])) fun _ => ev_andV (ev_bl (evd_call (eds_cons (evd_ixT (evd_var d0) evd_int (atI_1 _ _ _)) eds_nil) ⟨b, rfl, ok_tup ok (by simp), rfl⟩)) fun _ =>
                ev_bl (evd_call (eds_cons (evd_ixT (evd_var d0) evd_int (atI_2 _ _ _ _)) (eds_cons evd_int eds_nil)) ⟨c, rfl, ok_tup ok (by simp), rfl⟩))) (congrArg PyData.bool ?_)
              show (true && (true && (isName b && isSum 6 c))) = (decide (z = "set") && (isName b && isSum 6 c))
              rw [hz]
              rfl
theorem sc_is_source : FnScope ["thing", "row"] ["thing"] (defScope s_is_source) := ⟨rfl, rfl, rfl, by decide +kernel, rfl, by decide +kernel, by decide +kernel⟩
theorem ok_is_source {f : Addr} {fd : FuncData} (F : FnP K "is_source" "is_source" s_is_source f fd) (g : mg "is_source" = some (.ref f)) (T : Tx mg) (h_is_row : Has P w K mg base CX0 9 "is_row" ["thing"] (spD K F_is_row)) (m_MOST_ROWS : ∃ t, mg "MOST_ROWS" = some (.int 8 t)) : Has P w K mg base CX0 10 "is_source" ["thing"] (spD K F_is_source) := by
  have nd := (sc_is_source).nd
  refine has_d (FF := F_is_source) F g (F.bindsN fun _ _ _ _ _ _ us hl => match us, hl with | [_], _ => rfl) sc_is_source (by rintro _ _ ⟨_, rfl, _⟩; rfl) (fun cdv A outer s H vs Q E ds d H0 hr x hd hf k => ?_)
  obtain ⟨a, rfl, ok, rfl⟩ := hf
  obtain ⟨v0, rfl, d0⟩ := dts1 hd
  refine ⟨_, (pss_cons (ps_if (PW.pt (pw_or (pt_not (kTruth (K := K) rfl (pe_callB (kIsi (K := K) rfl) rfl (T.free (by decide)) boot_isinstance (pa_cons (pv 0) (pa_cons (pe_bltn (v := .ty "tuple") rfl (T.free (by decide)) boot_tuple rfl) pa_nil))))) (pw_or1 (pt_cmpR op_gt (pe_callB (kLen (K := K) rfl) rfl (T.free (by decide)) boot_len (pa_cons (pv 0) pa_nil)) (pe_gint m_MOST_ROWS) (nomark _))))) (pss_one (ps_ret pe_bl)) pss_nil)
      (pss_one (ps_ret (kNot (K := K) rfl (pe_lc (own := [("row", 1)]) rfl nd (kSeq (K := K) rfl (pv 0)) (blkOk_by (N := ["thing", "row"]) (sc := defScope s_is_source) (own := [("row", 1)]) (by decide +kernel)) (fun _ _ _ _ _ => (pg_name (i := 1) nd rfl (Or.inl rfl))) (fun _ _ _ _ _ => (pts_one (pt_not (kTruth (K := K) rfl (pe_has h_is_row hr (by omega) rfl pass0 (pa_cons (pv 1) pa_nil)))))) (fun _ _ _ _ _ => (pv 1))))))), ?_⟩
  have k : Rt K H0 H (.bool (isSource a)) Q := k
  have no : ∀ {H3 : Hp}, Ex H H3 → isSource a = false → tRet (tC (.bl false)) { nx := fun _ H' => Q .non H', rt := Q } (start ["thing", "row"] [v0]) H3 := fun e3 z => (k.go e3).ret (x.trans e3) evd_bl (congrArg PyData.bool z.symm)
  cases hT : isT a "tuple" with
  | false =>
    refine s_yes (et_or (a := true) (b := true) (et_not (a := false) (et_is (et_b (ev_isi (evd_var d0) (by decide))) hT)) fun z => nomatch z) x fun H1 e1 => no e1 ?_
    cases a <;> first | rfl | simp [isT, tyN] at hT
  | true =>
    obtain ⟨ds, rfl⟩ := isT_tup hT
    refine s_ifD (b := decide ((8 : Int) < (ds.length : Int))) (et_or (a := false) (et_not (a := true) (et_is (et_b (ev_isi (evd_var d0) (by decide))) hT)) fun _ => et_test (ev_I0 (K := K) (evd_i (ev_lenT (evd_var d0))) evd_int)) x (fun hb H1 e1 => no e1 ?_) fun hb H1 e1 => ?_
    · have hb := of_decide_eq_true hb
      show (decide (ds.length ≤ 8) && _) = false
      rw [decide_eq_false (by omega), Bool.false_and]
    · have hb := of_decide_eq_false hb
      refine (k.go e1).ret (x.trans e1) (evd_b (ev_notD (evd_lcT (fun d => !isRow d) id (evd_var d0) (by omega) (fun _ => rfl) (fun v d H5 _ hm hv => et_not (et_b (ev_bl (evd_call (eds_cons (evd_var hv) eds_nil) ⟨d, rfl, ok_tup ok hm, rfl⟩)))) fun v d H5 _ _ _ hv => evd_var hv) (ok_lst_of ?_))) (congrArg PyData.bool ?_)
      · intro d hd
        rw [List.map_id] at hd
        exact ok_tup ok (List.mem_filter.mp hd).1
      · show (!(!(List.map id (ds.filter fun d => !isRow d)).isEmpty)) = (decide (ds.length ≤ 8) && ds.all isRow)
        rw [decide_eq_true (by omega), Bool.true_and, Bool.not_not, List.isEmpty_map, Bool.eq_iff_iff, List.isEmpty_iff, List.filter_eq_nil_iff, List.all_eq_true]
        simp
theorem sc_look : FnScope ["source"] ["source"] (defScope s_look) := ⟨rfl, rfl, rfl, by decide +kernel, rfl, by decide +kernel, by decide +kernel⟩
theorem ok_look {f : Addr} {fd : FuncData} (F : FnP K "look" "look" s_look f fd) (g : mg "look" = some (.ref f)) (T : Tx mg) {c_BadSource : Addr} (h_is_source : Has P w K mg base CX0 10 "is_source" ["thing"] (spD K F_is_source)) (x_BadSource : ExcF K mg "BadSource" c_BadSource) : Has P w K mg base (L2.CX P w) 11 "look" ["source"] (spDX K c_BadSource F_look) := by
  have nd := (sc_look).nd
  refine has_x F g (F.bindsN fun _ _ _ _ _ _ us hl => match us, hl with | [_], _ => rfl) sc_look (by rintro _ _ _ _ ⟨_, _, _, _, hd, ⟨_, rfl, _⟩, _⟩; exact dpAll_len hd) (fun cdv A outer s H vs Q E hr h => ?_)
  obtain ⟨_, o, H0, x, hd, ⟨d, rfl, ok, rfl⟩, k1, k2⟩ := h
  obtain ⟨v0, rfl, d0⟩ := dts1 hd
  refine ⟨_, (pss_one (ps_if (pt_not (kTruth (K := K) rfl (pe_has h_is_source hr (by omega) rfl pass0 (pa_cons (pv 0) pa_nil)))) (pss_one (ps_raise rfl (takes_of rfl rfl rfl rfl) (pmk_own PySem.F.excBase_ValueError x_BadSource.q x_BadSource.g x_BadSource.k (raises_own x_BadSource.b x_BadSource.t) rfl))) pss_nil)), ?_⟩
  refine s_ifD (b := !isSource d) (et_not (et_b (ev_bl (evd_call (eds_cons (evd_var d0) eds_nil) ⟨d, rfl, ok, rfl⟩)))) x (fun hb H1 e1 => ?_) fun hb H1 e1 => ?_
  · have hb : isSource d = false := by simpa using hb
    rw [hb] at k2
    exact k2 rfl H1 e1
  · have hb : isSource d = true := by simpa using hb
    rw [hb] at k1
    exact k1 _ rfl .non H1 H0 (Gr.base x e1) .non
theorem sc_Cell_init : FnScope ["self", "source"] ["self", "source"] (defScope s_Cell_init) := ⟨rfl, rfl, rfl, by decide +kernel, rfl, by decide +kernel, by decide +kernel⟩
theorem ok_Cell_init {f : Addr} {fd : FuncData} {W : NbC} (U : NbT K W) (F : FnP K "__init__" "Cell.__init__" s_Cell_init f fd) (M : Mk K W.C f) (g : mg "Cell" = some (.ref W.C)) (T : Tx mg) : HasI P w K mg base CX0 1 W.C "Cell" ["self", "source"] (spCellI K W) := by
  have nd := (sc_Cell_init).nd
  refine hasI_p F M g (F.bindsN fun _ _ _ _ _ _ us hl => match us, hl with | [_, _], _ => rfl) sc_Cell_init (by rintro _ _ _ _ ⟨_, _, _, rfl, _⟩; rfl) (fun cdv A outer s H vs Q E hr h => ?_)
  obtain ⟨x, dx, v, rfl, hx, k⟩ := h
  refine ⟨_, (pss_cons (kSetFld (K := K) rfl (pv 0) (pv 1))
      (pss_cons (kSetFld (K := K) rfl (pv 0) pe_int)
      (pss_cons (kSetFld (K := K) rfl (pv 0) pe_bl)
      (pss_one (kSetFld (K := K) rfl (pv 0) pe_non))))), ?_⟩
  refine s_fld (ev_var rfl) (ev_var rfl) hx U.cC (U.nC (by decide)) (by decide) fun H1 e1 => ?_
  refine s_fld ev_c (ev_var rfl) upd_same U.cC (U.nC (by decide)) (by show 1 < 1000; decide) fun H2 e2 => ?_
  refine s_fld ev_c (ev_var rfl) upd_same U.cC (U.nC (by decide)) (by show 2 < 1000; decide) fun H3 e3 => ?_
  refine s_fld ev_c (ev_var rfl) upd_same U.cC (U.nC (by decide)) (by show 3 < 1000; decide) fun H4 e4 => ?_
  refine k _ upd_same fun a o ha ho => ?_
  rw [upd_ne ha]
  refine e4 _ _ ?_
  rw [upd_ne ha]
  refine e3 _ _ ?_
  rw [upd_ne ha]
  refine e2 _ _ ?_
  rw [upd_ne ha]
  exact e1 _ _ ho
theorem sc_Notebook_init : FnScope ["self"] ["self"] (defScope s_Notebook_init) := ⟨rfl, rfl, rfl, by decide +kernel, rfl, by decide +kernel, by decide +kernel⟩
theorem ok_Notebook_init {f : Addr} {fd : FuncData} {W : NbC} (U : NbT K W) (F : FnP K "__init__" "Notebook.__init__" s_Notebook_init f fd) (M : Mk K W.N f) (g : mg "Notebook" = some (.ref W.N)) (T : Tx mg) : HasI P w K mg base CX0 1 W.N "Notebook" ["self"] (spNbI K W) := by
  have nd := (sc_Notebook_init).nd
  refine hasI_p F M g (F.bindsN fun _ _ _ _ _ _ us hl => match us, hl with | [_], _ => rfl) sc_Notebook_init (by rintro _ _ _ _ ⟨_, _, rfl, _⟩; rfl) (fun cdv A outer s H vs Q E hr h => ?_)
  obtain ⟨x, dx, rfl, hx, k⟩ := h
  refine ⟨_, (pss_cons (kSetFld (K := K) rfl (pv 0) pe_dnewK)
      (pss_cons (kSetFld (K := K) rfl (pv 0) (pe_lst pa_nil))
      (pss_one (kSetFld (K := K) rfl (pv 0) pe_int)))), ?_⟩
  intro c hc
  have nc : x ≠ c := ne_of_none hx hc
  refine ⟨_, rfl, x, W.N, dx, _, rfl, (upd_ne nc).trans hx, U.cN, U.nN (by decide), by decide, ?_⟩
  refine ⟨Nat.zero_le _, fun r hr => ?_⟩
  have nr : r ≠ x := fun z => by rw [z, upd_same] at hr; cases hr
  rw [upd_ne nr] at hr
  have nrc : r ≠ c := fun z => by rw [z, upd_same] at hr; cases hr
  rw [upd_ne nrc] at hr
  refine ⟨_, rfl, x, W.N, dx, _, rfl, (upd_ne nr.symm).trans upd_same, U.cN, U.nN (by decide), by show 1 < 1000; decide, ?_⟩
  refine ⟨_, rfl, x, W.N, dx, _, rfl, upd_same, U.cN, U.nN (by decide), by show 2 < 1000; decide, ?_⟩
  refine k c r _ hc hr nrc.symm upd_same ?_ ?_ fun a o ha ho => ?_
  · rw [upd_ne nc.symm, upd_ne nc.symm, upd_ne nrc.symm, upd_ne nc.symm, upd_same]
  · rw [upd_ne nr, upd_ne nr, upd_same]
  · have h1 : a ≠ r := ne_of_none ho hr
    have h2 : a ≠ c := ne_of_none ho hc
    rw [upd_ne ha, upd_ne ha, upd_ne h1, upd_ne ha, upd_ne h2]
    exact ho
theorem sc_Notebook_look_cell : FnScope ["self", "number"] ["self", "number"] (defScope s_Notebook_look_cell) := ⟨rfl, rfl, rfl, by decide +kernel, rfl, by decide +kernel, by decide +kernel⟩
theorem ok_Notebook_look_cell {f : Addr} {fd : FuncData} {W : NbC} (U : NbT K W) {c_NoCell : Addr} (h_is_within : Has P w K mg base CX0 1 "is_within" ["thing", "low", "high"] (spD K F_is_within)) (x_NoCell : ExcF K mg "NoCell" c_NoCell) (F : FnP K "look_cell" "Notebook.look_cell" s_Notebook_look_cell f fd) (g : Meth K W.N "look_cell" f) (T : Tx mg) : HasM P w K mg base (L2.CX P w) 2 W.N "look_cell" ["self", "number"] (spNq K W (R_look_cell c_NoCell)) := by
  have nd := (sc_Notebook_look_cell).nd
  refine hasM_x F g (F.bindsN fun _ _ _ _ _ _ us hl => match us, hl with | [_, _], _ => rfl) sc_Notebook_look_cell (by rintro _ _ _ _ ⟨_, _, _, _, _, _, _, rfl, _, _, hd, ⟨_, rfl, _⟩, _⟩; exact congrArg (· + 1) (dpAll_len hd)) (fun cdv A outer s H vs Q E hr h => ?_)
  obtain ⟨M, B, nb, st', ws, _, o, rfl, hN, hG, hd, ⟨d, rfl, rfl⟩, k1, k2⟩ := h
  obtain ⟨v1, rfl, d1⟩ := dts1 hd
  obtain ⟨dn, c, r, kvs, ad, L⟩ := hN
  refine ⟨_, (pss_one (ps_if (PW.pt (pw_or (pt_not (kTruth (K := K) rfl (pe_has h_is_within hr (by omega) rfl pass0 (pa_cons (pv 1) (pa_cons pe_int (pa_cons (kFld (K := K) rfl (pv 0)) pa_nil)))))) (pw_or1 (pt_cmp (pc_dnotin (Nat.lt_of_le_of_lt (Nat.add_le_add_left (by decide) _) hr.units) (pv 1) (kFld (K := K) rfl (pv 0))))))) (pss_one (ps_raise rfl (takes_of rfl rfl rfl rfl) (pmk_own PySem.F.excBase_ValueError x_NoCell.q x_NoCell.g x_NoCell.k (raises_own x_NoCell.b x_NoCell.t) rfl))) pss_nil)), ?_⟩
  have D1 := dp_ex L.x _ _ d1
  refine s_ifD (H0 := H) (b := !isCellD st' d) (et_is (et_or (a := !isWithin d 0 (st'.after : Int)) (b := !isCellD st' d) (et_not (et_b (ev_bl (evd_call (eds_cons (evd_var D1) (eds_cons evd_int (eds_cons (evd_i (L.afterE U (ev_var rfl))) eds_nil))) ⟨d, 0, _, rfl, rfl⟩)))) fun hb => ?_) ?_) (Ex.refl _) (fun hb H1 e1 => ?_) fun hb H1 e1 => ?_
  · obtain ⟨i, rfl⟩ : ∃ i, d = .int i := by
      cases d <;> simp [isWithin] at hb
      exact ⟨_, rfl⟩
    rw [← L.isSome i]
    exact et_B (ev_dnotin (k := .inl i) (ev_int (evd_var D1)) (L.cellsE U (ev_var rfl)) L.hc)
  · cases h : isCellD st' d with
    | false => simp
    | true => rw [cell_within hG h]; rfl
  · rw [Bool.not_eq_true'] at hb
    rw [hb] at k2
    exact k2 _ rfl H1 e1
  · rw [Bool.not_eq_false'] at hb
    rw [hb] at k1
    exact k1 _ rfl .non H1 B (Gr.base L.x e1) .non
theorem sc_Notebook_look_place : FnScope ["self", "place", "most"] ["self", "place", "most"] (defScope s_Notebook_look_place) := ⟨rfl, rfl, rfl, by decide +kernel, rfl, by decide +kernel, by decide +kernel⟩
theorem ok_Notebook_look_place {f : Addr} {fd : FuncData} {W : NbC} (U : NbT K W) {c_BadNumber : Addr} (h_is_within : Has P w K mg base CX0 1 "is_within" ["thing", "low", "high"] (spD K F_is_within)) (x_BadNumber : ExcF K mg "BadNumber" c_BadNumber) (F : FnP K "look_place" "Notebook.look_place" s_Notebook_look_place f fd) (g : Meth K W.N "look_place" f) (T : Tx mg) : HasM P w K mg base (L2.CX P w) 2 W.N "look_place" ["self", "place", "most"] (spNq K W (R_look_place c_BadNumber)) := by
  have nd := (sc_Notebook_look_place).nd
  refine hasM_x F g (F.bindsN fun _ _ _ _ _ _ us hl => match us, hl with | [_, _, _], _ => rfl) sc_Notebook_look_place (by rintro _ _ _ _ ⟨_, _, _, _, _, _, _, rfl, _, _, hd, ⟨_, _, rfl, _⟩, _⟩; exact congrArg (· + 1) (dpAll_len hd)) (fun cdv A outer s H vs Q E hr h => ?_)
  obtain ⟨M, B, nb, st, ws, _, o, rfl, hN, hG, hd, ⟨d, i, rfl, rfl⟩, k1, k2⟩ := h
  obtain ⟨v1, v2, rfl, d1, d2⟩ := dts2 hd
  have x := hN.x
  refine ⟨_, (pss_one (ps_if (pt_not (kTruth (K := K) rfl (pe_has h_is_within hr (by omega) rfl pass0 (pa_cons (pv 1) (pa_cons pe_int (pa_cons (pv 2) pa_nil)))))) (pss_one (ps_raise rfl (takes_of rfl rfl rfl rfl) (pmk_own PySem.F.excBase_ValueError x_BadNumber.q x_BadNumber.g x_BadNumber.k (raises_own x_BadNumber.b x_BadNumber.t) rfl))) pss_nil)), ?_⟩
  refine s_ifD (b := !isWithin d 0 i) (et_not (et_b (ev_bl (evd_call (eds_cons (evd_var d1) (eds_cons evd_int (eds_cons (evd_var d2) eds_nil))) ⟨d, 0, i, rfl, rfl⟩)))) x (fun hb H1 e1 => ?_) fun hb H1 e1 => ?_
  · rw [Bool.not_eq_true'] at hb
    rw [hb] at k2
    exact k2 _ rfl H1 e1
  · rw [Bool.not_eq_false'] at hb
    rw [hb] at k1
    exact k1 _ rfl .non H1 B (Gr.base x e1) .non
theorem sc_Notebook_put : FnScope ["self", "place", "source", "number"] ["self", "place", "source"] (defScope s_Notebook_put) := ⟨rfl, rfl, rfl, by decide +kernel, rfl, by decide +kernel, by decide +kernel⟩
theorem ok_Notebook_put {f : Addr} {fd : FuncData} {W : NbC} (U : NbT K W) {c_BadSource : Addr} {c_BadNumber : Addr} {c_Full : Addr} (i_Cell : HasI P w K mg base CX0 1 W.C "Cell" ["self", "source"] (spCellI K W)) (m_MOST_CELLS : ∃ t, mg "MOST_CELLS" = some (.int 30 t)) (x_Full : ExcF K mg "Full" c_Full) (h_look : Has P w K mg base (L2.CX P w) 11 "look" ["source"] (spDX K c_BadSource F_look)) (h_Notebook_look_place : HasM P w K mg base (L2.CX P w) 2 W.N "look_place" ["self", "place", "most"] (spNq K W (R_look_place c_BadNumber))) (F : FnP K "put" "Notebook.put" s_Notebook_put f fd) (g : Meth K W.N "put" f) (T : Tx mg) : HasM P w K mg base (L2.CX P w) 12 W.N "put" ["self", "place", "source"] (spNb K W (R_put c_BadNumber c_BadSource c_Full)) := by
  have nd := (sc_Notebook_put).nd
  refine hasM_x F g (F.bindsN fun _ _ _ _ _ _ us hl => match us, hl with | [_, _, _], _ => rfl) sc_Notebook_put (by rintro _ _ _ _ ⟨_, _, _, _, _, _, _, _, rfl, _, _, hd, ⟨_, _, rfl, _⟩, _⟩; exact congrArg (· + 1) (dpAll_len hd)) (fun cdv A outer s H vs Q E hr h => ?_)
  obtain ⟨M, B, nb, st, ws, _, o, st', rfl, hN, hG, hd, ⟨d, s, rfl, ok, hf⟩, k1, k2⟩ := h
  obtain ⟨v1, v2, rfl, d1, d2⟩ := dts2 hd
  obtain ⟨dn, c, r, kvs, ad, L⟩ := hN
  refine ⟨_, (pss_cons (ps_expr (pe_hm (pv 0) U.cN h_Notebook_look_place hr (by omega) (passA (passes_call (takes_of rfl rfl rfl rfl) fun _ _ _ _ h => h)) (pa_cons (pv 1) (pa_cons (pe_callB (kLen (K := K) rfl) rfl (T.free (by decide)) boot_len (pa_cons (kFld (K := K) rfl (pv 0)) pa_nil)) pa_nil))))
      (pss_cons (ps_expr (pe_has h_look hr (by omega) rfl (passes_call (takes_of rfl rfl rfl rfl) fun _ _ _ _ h => h) (pa_cons (pv 2) pa_nil)))
      (pss_cons (ps_if (pt_cmpR (kEq (K := K) rfl hr.units) (pe_callB (kLen (K := K) rfl) rfl (T.free (by decide)) boot_len (pa_cons (kFld (K := K) rfl (pv 0)) pa_nil)) (pe_gint m_MOST_CELLS) (nomark _)) (pss_one (ps_raise rfl (takes_of rfl rfl rfl rfl) (pmk_own PySem.F.excBase_ValueError x_Full.q x_Full.g x_Full.k (raises_own x_Full.b x_Full.t) rfl))) pss_nil)
      (pss_cons (ps_set (i := 3) nd rfl (Or.inl rfl) (kFld (K := K) rfl (pv 0)))
      (pss_cons (kAugFld (K := K) rfl (pv 0) pe_int)
      (pss_cons (ps_dput (Nat.lt_of_le_of_lt (Nat.add_le_add_left (by decide) _) hr.units) (kFld (K := K) rfl (pv 0)) (pv 3) (pe_mk i_Cell hr (by omega) rfl pass0 (pa_cons (pv 2) pa_nil)) rfl)
      (pss_cons (ps_expr (pe_bm PySem.F.plainAttrs_list PySem.F.slot_list_insert PySem.F.type_list_insert kIns (kFld (K := K) rfl (pv 0)) (pa_cons (pv 1) (pa_cons (pv 3) pa_nil))))
      (pss_one (ps_ret (pv 3)))))))))), ?_⟩
  have no : ∀ {H1 : Hp} (cc : Addr), Ex H H1 → o = .inr cc → st' = st → E (.ref cc) none H1 := fun {H1} cc e ho hs => k2 _ ho H1 B M (Fr.of (Gr.base L.x e)) (by rw [hs]; exact (L.ex e).toNB)
  refine s_q (K := K) (T := W) (st := st) (fun _ _ _ => rfl) (ev_var rfl) L.toNB hG (ebs_cons ((evd_var d1).toB L.x) (ebs_cons (evb_i L.x (L.lenE U (ev_var rfl))) (ebs_nil L.x))) ⟨d, (st.row.length : Int), rfl, rfl⟩ (fun z e H1 e1 => ?_) fun cc e H1 e1 => ?_
  rotate_left
  · cases hw : isWithin d 0 (st.row.length : Int) with
    | true => rw [hw] at e; cases e
    | false =>
      rw [hw] at e
      cases e
      rcases hf with ⟨_, ho, hs⟩ | ⟨h, _⟩ | ⟨h, _⟩ | ⟨i, src, rfl, hi, _⟩
      · exact no _ e1 ho hs
      · rw [hw] at h; cases h
      · rw [hw] at h; cases h
      · exfalso
        simp [isWithin] at hw
        omega
  have hw : isWithin d 0 (st.row.length : Int) = true := by
    cases hw : isWithin d 0 (st.row.length : Int) with
    | true => rfl
    | false => rw [hw] at e; cases e
  clear e z
  refine s_callX (cB := c_BadSource) (eds_cons (evd_var d2) eds_nil) (L.x.trans e1) ⟨s, rfl, ok, rfl⟩ (fun z e H2 e2 => ?_) fun e H2 e2 => ?_
  rotate_left
  · have hS : isSource s = false := by
      cases hS : isSource s with
      | false => rfl
      | true => rw [hS] at e; cases e
    rcases hf with ⟨h, _⟩ | ⟨_, _, ho, hs⟩ | ⟨_, h, _⟩ | ⟨i, src, _, hi, rfl, hg, _⟩
    · rw [hw] at h; cases h
    · exact no _ (e1.trans e2) ho hs
    · rw [hS] at h; cases h
    · rw [isSource_enc src hg] at hS; cases hS
  have hS : isSource s = true := by
    cases hS : isSource s with
    | true => rfl
    | false => rw [hS] at e; cases e
  clear e z
  have L2 := L.ex (e1.trans e2)
  dsimp only
  refine s_ifD (H0 := H2) (b := decide (st.row.length = 30)) (et_is (et_test (ev_eq (evd_i (K := K) (L2.lenE U (ev_var rfl))) evd_int rfl rfl)) ?_) (Ex.refl _) (fun hb H3 e3 => ?_) fun hb H3 e3 => ?_
  · show ((st.row.length : Int) == 30) = _
    rw [Bool.eq_iff_iff]
    simp
    omega
  · have hb := of_decide_eq_true hb
    rcases hf with ⟨h, _⟩ | ⟨_, h, _⟩ | ⟨_, _, _, ho, hs⟩ | ⟨i, src, _, hi, rfl, hg, h, _⟩
    · rw [hw] at h; cases h
    · rw [hS] at h; cases h
    · exact no _ ((e1.trans e2).trans e3) ho hs
    · omega
  have hb := of_decide_eq_false hb
  rcases hf with ⟨h, _⟩ | ⟨_, h, _⟩ | ⟨_, _, h, _⟩ | ⟨i, src, rfl, hi, rfl, hg, h30, rfl, rfl⟩
  · rw [hw] at h; cases h
  · rw [hS] at h; cases h
  · exact absurd h hb
  have L3 := L2.ex e3
  refine s_asg (L3.afterE U (ev_var rfl)) fun H4 e4 => ?_
  have L4 := L3.ex e4
  have X4 : Ex H H4 := ((e1.trans e2).trans e3).trans e4
  dsimp only
  refine s_fldaug (ev_var rfl) L4.hn U.cN (U.nN (by decide)) rfl ev_c (by show 3 < 1000; decide) fun H5 e5 => ?_
  have L5 := L4.ex e5
  have X5 : Ex H H5 := X4.trans e5
  have hc5 := L5.hc
  have hr5 := L5.hr
  refine ⟨_, rfl, fun x dx hx hdx hne => ?_⟩
  have nx : x ≠ nb := fun z => by rw [z, upd_same] at hx; cases hx
  rw [upd_ne nx] at hx
  have ndn : dx ≠ nb := fun z => by rw [z, upd_same] at hdx; cases hdx
  rw [upd_ne ndn] at hdx
  have xc : x ≠ c := fun z => by rw [z, hc5] at hx; cases hx
  have xr : x ≠ r := fun z => by rw [z, hr5] at hx; cases hx
  have dc : dx ≠ c := fun z => by rw [z, hc5] at hdx; cases hdx
  have dr : dx ≠ r := fun z => by rw [z, hr5] at hdx; cases hdx
  refine ⟨x, dx, v2, rfl, upd_same, fun H6 h6 f6 => ⟨rfl, ?_⟩⟩
  have g6 : ∀ a o, a ≠ nb → H5 a = some o → H6 a = some o := fun a o ha ho => by
    have h1 : a ≠ x := ne_of_none ho hx
    have h2 : a ≠ dx := ne_of_none ho hdx
    refine f6 a o h1 ?_
    rw [upd_ne h1, upd_ne h2, upd_ne ha]
    exact ho
  have n6 : H6 nb = some (.ins W.N dn [("cells", .ref c), ("row", .ref r), ("after", .int ((st.after : Int) + 1))]) := by
    refine f6 nb _ nx.symm ?_
    rw [upd_ne nx.symm, upd_ne ndn.symm, upd_same]
    rfl
  have c6 : H6 c = some (.dK kvs) := g6 c _ L5.ne_nc.symm hc5
  have r6 : H6 r = some (.lst (st.row.map fun n : Nat => V.int (n : Int))) := g6 r _ L5.ne_nr.symm hr5
  show tFld K (tVar 0) "cells" _ H6 _
  refine ev_fld (K := K) (ta := tVar 0) (f := "cells") (v := .ref c) (ev_var rfl) n6 U.cN (U.nN (by decide)) rfl H6 (Ex.refl _) _ fun H7 e7 => ?_
  refine ⟨_, rfl, c, _, rfl, DPut.k (k := .inl (st.after : Int)) (e7 _ _ c6) (sz_lt ?_), ?_⟩
  · have := L.kl
    have := hG.few
    omega
  have n8 : upd H7 c (.dK (putK kvs (.inl (st.after : Int)) (.ref x))) nb = some (.ins W.N dn [("cells", .ref c), ("row", .ref r), ("after", .int ((st.after : Int) + 1))]) := by
    rw [upd_ne L5.ne_nc]
    exact e7 _ _ n6
  have r8 : upd H7 c (.dK (putK kvs (.inl (st.after : Int)) (.ref x))) r = some (.lst (st.row.map fun n : Nat => V.int (n : Int))) := by
    rw [upd_ne L5.ne_cr.symm]
    exact e7 _ _ r6
  have ei := dp_int d1
  subst ei
  dsimp only
  refine s_ins (l := r) (i := (i : Int)) (y := .int (st.after : Int)) r8 (ev_fld (K := K) (ev_var rfl) n8 U.cN (U.nN (by decide)) rfl) (ev_var rfl) (ev_var rfl) (by rw [List.length_map]; omega) (by omega) (by omega) fun H8 e8 => ?_
  rw [Int.toNat_natCast]
  have hx0 : H x = none := fresh_back X5 hx
  have key := L.put (H' := upd H8 r (.lst ((st.row.map fun n : Nat => V.int (n : Int)).take i ++ [V.int (st.after : Int)] ++ (st.row.map fun n : Nat => V.int (n : Int)).drop i))) (v := v2) (src := src) (dx := dx) (x := x) hG hi hx0 d2 ?_ ?_ upd_same ?_ ?_
  · exact ⟨_, rfl, k1 _ rfl _ _ B _ key.1 key.2.toNB (Kept.of L key.2 fun n hn h => if_neg fun z => by have := hG.lt n h; omega) (.int _)⟩
  · rw [upd_ne L5.ne_nr]
    exact e8 _ _ n8
  · rw [upd_ne L5.ne_cr]
    exact e8 _ _ upd_same
  · rw [upd_ne xr]
    refine e8 _ _ ?_
    rw [upd_ne xc]
    exact e7 _ _ h6
  · intro a o ha hc hr ho
    rw [upd_ne hr]
    refine e8 _ _ ?_
    rw [upd_ne hc]
    exact e7 _ _ (g6 a o ha (X5 _ _ ho))
theorem sc_Notebook_drop : FnScope ["self", "number"] ["self", "number"] (defScope s_Notebook_drop) := ⟨rfl, rfl, rfl, by decide +kernel, rfl, by decide +kernel, by decide +kernel⟩
theorem ok_Notebook_drop {f : Addr} {fd : FuncData} {W : NbC} (U : NbT K W) {c_NoCell : Addr} (h_Notebook_look_cell : HasM P w K mg base (L2.CX P w) 2 W.N "look_cell" ["self", "number"] (spNq K W (R_look_cell c_NoCell))) (F : FnP K "drop" "Notebook.drop" s_Notebook_drop f fd) (g : Meth K W.N "drop" f) (T : Tx mg) : HasM P w K mg base (L2.CX P w) 3 W.N "drop" ["self", "number"] (spNb K W (R_drop c_NoCell)) := by
  have nd := (sc_Notebook_drop).nd
  refine hasM_x F g (F.bindsN fun _ _ _ _ _ _ us hl => match us, hl with | [_, _], _ => rfl) sc_Notebook_drop (by rintro _ _ _ _ ⟨_, _, _, _, _, _, _, _, rfl, _, _, hd, ⟨_, rfl, _⟩, _⟩; exact congrArg (· + 1) (dpAll_len hd)) (fun cdv A outer s H vs Q E hr h => ?_)
  obtain ⟨M, B, nb, st, ws, _, o, st', rfl, hN, hG, hd, ⟨d, rfl, hf⟩, k1, k2⟩ := h
  obtain ⟨v1, rfl, d1⟩ := dts1 hd
  obtain ⟨dn, c, r, kvs, ad, L⟩ := hN
  refine ⟨_, (pss_cons (ps_expr (pe_hm (pv 0) U.cN h_Notebook_look_cell hr (by omega) (passA (passes_call (takes_of rfl rfl rfl rfl) fun _ _ _ _ h => h)) (pa_cons (pv 1) pa_nil)))
      (pss_cons (ps_expr (pe_bm PySem.F.plainAttrs_list PySem.F.slot_list_remove PySem.F.type_list_remove kRem (kFld (K := K) rfl (pv 0)) (pa_cons (pv 1) pa_nil)))
      (pss_one (ps_expr (pe_dpop1 (kFld (K := K) rfl (pv 0)) (pv 1) ⟨rfl, rfl, rfl, rfl⟩))))), ?_⟩
  refine s_q (K := K) (T := W) (st := st) (fun _ _ _ => rfl) (ev_var rfl) L.toNB hG (ebs_cons ((evd_var d1).toB L.x) (ebs_nil L.x)) ⟨d, rfl, rfl⟩ (fun z e H1 e1 => ?_) fun cc e H1 e1 => ?_
  rotate_left
  · rcases hf with ⟨h, ho, hs⟩ | ⟨n, hn, rfl, ho, hs⟩
    · rw [h] at e
      cases e
      exact k2 _ ho H1 B M (Fr.of (Gr.base L.x e1)) (by rw [hs]; exact (L.ex e1).toNB)
    · rw [cell_int hn] at e
      cases e
  rcases hf with ⟨h, ho, hs⟩ | ⟨n, hn, rfl, rfl, rfl⟩
  · rw [h] at e
    cases e
  have L1 := L.ex e1
  have ei := dp_int d1
  subst ei
  dsimp only
  refine s_rem (n := n) L1.hr hn hG.nd (L1.rowE U (ev_var rfl)) (ev_var rfl) fun H2 e2 => ?_
  have L2 := L1.ex e2
  dsimp only
  have n3 : upd H2 r (.lst ((st.row.erase n).map fun n : Nat => V.int (n : Int))) nb = some (.ins W.N dn [("cells", .ref c), ("row", .ref r), ("after", .int (st.after : Int))]) := by
    rw [upd_ne L2.ne_nr]
    exact L2.hn
  have c3 : upd H2 r (.lst ((st.row.erase n).map fun n : Nat => V.int (n : Int))) c = some (.dK kvs) := by
    rw [upd_ne L2.ne_cr]
    exact L2.hc
  refine s_pop (k := .inl (n : Int)) c3 (ev_fld (K := K) (ev_var rfl) n3 U.cN (U.nN (by decide)) rfl) (ev_var rfl) (L2.kin n hn) fun H3 e3 => ?_
  have key := L.drop (H' := upd H3 c (.dK (dropK kvs (.inl (n : Int))))) (n := n) hG upd_same ?_ ?_
  · exact k1 _ rfl .non _ B M key.1 key.2.toNB (Kept.of L key.2 fun _ _ _ => rfl) .non
  · rw [upd_ne L2.ne_cr.symm]
    exact e3 _ _ upd_same
  · intro a o hc hr ho
    rw [upd_ne hc]
    refine e3 _ _ ?_
    rw [upd_ne hr]
    exact (e1.trans e2) _ _ ho
theorem sc_Notebook_cut : FnScope ["self", "number", "at", "cell", "other"] ["self", "number", "at"] (defScope s_Notebook_cut) := ⟨rfl, rfl, rfl, by decide +kernel, rfl, by decide +kernel, by decide +kernel⟩
theorem ok_Notebook_cut {f : Addr} {fd : FuncData} {W : NbC} (U : NbT K W) {c_BadSource : Addr} {c_NoCell : Addr} {c_BadNumber : Addr} {c_Full : Addr} (h_Notebook_put : HasM P w K mg base (L2.CX P w) 12 W.N "put" ["self", "place", "source"] (spNb K W (R_put c_BadNumber c_BadSource c_Full))) (m_MOST_CELLS : ∃ t, mg "MOST_CELLS" = some (.int 30 t)) (x_Full : ExcF K mg "Full" c_Full) (h_is_within : Has P w K mg base CX0 1 "is_within" ["thing", "low", "high"] (spD K F_is_within)) (x_BadNumber : ExcF K mg "BadNumber" c_BadNumber) (h_Notebook_look_cell : HasM P w K mg base (L2.CX P w) 2 W.N "look_cell" ["self", "number"] (spNq K W (R_look_cell c_NoCell))) (F : FnP K "cut" "Notebook.cut" s_Notebook_cut f fd) (g : Meth K W.N "cut" f) (T : Tx mg) : HasM P w K mg base (L2.CX P w) 13 W.N "cut" ["self", "number", "at"] (spNb K W (R_cut c_NoCell c_BadNumber c_Full)) := by
  have nd := (sc_Notebook_cut).nd
  refine hasM_x F g (F.bindsN fun _ _ _ _ _ _ us hl => match us, hl with | [_, _, _], _ => rfl) sc_Notebook_cut (by rintro _ _ _ _ ⟨_, _, _, _, _, _, _, _, rfl, _, _, hd, ⟨_, _, rfl, _⟩, _⟩; exact congrArg (· + 1) (dpAll_len hd)) (fun cdv A outer s H vs Q E hr h => ?_)
  obtain ⟨M, B, nb, st, ws, _, o, st', rfl, hN, hG, hd, ⟨d, e0, rfl, hf⟩, k1, k2⟩ := h
  obtain ⟨v1, v2, rfl, d1, d2⟩ := dts2 hd
  obtain ⟨dn, c, r, kvs, ad, L⟩ := hN
  refine ⟨_, (pss_cons (ps_expr (pe_hm (pv 0) U.cN h_Notebook_look_cell hr (by omega) (passA (passes_call (takes_of rfl rfl rfl rfl) fun _ _ _ _ h => h)) (pa_cons (pv 1) pa_nil)))
      (pss_cons (ps_set (i := 3) nd rfl (Or.inl rfl) (pe_dget (Nat.lt_of_le_of_lt (Nat.add_le_add_left (by decide) _) hr.units) (kFld (K := K) rfl (pv 0)) (pv 1) (fun _ _ => rfl)))
      (pss_cons (ps_if (pt_not (kTruth (K := K) rfl (pe_has h_is_within hr (by omega) rfl pass0 (pa_cons (pv 2) (pa_cons pe_int (pa_cons (pe_callB (kLen (K := K) rfl) rfl (T.free (by decide)) boot_len (pa_cons (kFld (K := K) rfl (pv 3)) pa_nil)) pa_nil)))))) (pss_one (ps_raise rfl (takes_of rfl rfl rfl rfl) (pmk_own PySem.F.excBase_ValueError x_BadNumber.q x_BadNumber.g x_BadNumber.k (raises_own x_BadNumber.b x_BadNumber.t) rfl))) pss_nil)
      (pss_cons (ps_if (pt_cmpR (kEq (K := K) rfl hr.units) (pe_callB (kLen (K := K) rfl) rfl (T.free (by decide)) boot_len (pa_cons (kFld (K := K) rfl (pv 0)) pa_nil)) (pe_gint m_MOST_CELLS) (nomark _)) (pss_one (ps_raise rfl (takes_of rfl rfl rfl rfl) (pmk_own PySem.F.excBase_ValueError x_Full.q x_Full.g x_Full.k (raises_own x_Full.b x_Full.t) rfl))) pss_nil)
      (pss_cons (ps_set (i := 4) nd rfl (Or.inl rfl) (pe_hm (pv 0) U.cN h_Notebook_put hr (by omega) (passA (passes_call (takes_of rfl rfl rfl rfl) fun _ _ _ _ h => h)) (pa_cons (pe_op (kAdd (K := K) rfl) (pe_bm PySem.F.plainAttrs_list PySem.F.slot_list_index PySem.F.type_list_index (kIndex (K := K) rfl) (kFld (K := K) rfl (pv 0)) (pa_cons (pv 1) pa_nil)) pe_int) (pa_cons (pe_slice (kSl (K := K) rfl) (kFld (K := K) rfl (pv 3)) (po_some (pv 2)) po_none) pa_nil))))
      (pss_cons (kSetFld (K := K) rfl (pe_dget (Nat.lt_of_le_of_lt (Nat.add_le_add_left (by decide) _) hr.units) (kFld (K := K) rfl (pv 0)) (pv 4) (fun _ _ => rfl)) (kFld (K := K) rfl (pv 3)))
      (pss_cons (kSetFld (K := K) rfl (pv 3) (pe_slice (kSl (K := K) rfl) (kFld (K := K) rfl (pv 3)) po_none (po_some (pv 2))))
      (pss_cons (kAugFld (K := K) rfl (pv 3) pe_int)
      (pss_one (ps_ret (pv 4))))))))))), ?_⟩
  have no : ∀ {H1 : Hp} (cc : Addr), Ex H H1 → o = .inr cc → st' = st → E (.ref cc) none H1 := fun {H1} cc e ho hs => k2 _ ho H1 B M (Fr.of (Gr.base L.x e)) (by rw [hs]; exact (L.ex e).toNB)
  refine s_q (K := K) (T := W) (st := st) (fun _ _ _ => rfl) (ev_var rfl) L.toNB hG (ebs_cons ((evd_var d1).toB L.x) (ebs_nil L.x)) ⟨d, rfl, rfl⟩ (fun z e H1 e1 => ?_) fun cc e H1 e1 => ?_
  rotate_left
  · rcases hf with ⟨h, ho, hs⟩ | ⟨n, hn, rfl, _⟩
    · rw [h] at e
      cases e
      exact no _ e1 ho hs
    · rw [cell_int hn] at e
      cases e
  rcases hf with ⟨h, ho, hs⟩ | ⟨n, hn, rfl, hf⟩
  · rw [h] at e
    cases e
  clear e z
  have ei := dp_int d1
  subst ei
  have L1 := L.ex e1
  dsimp only
  refine s_asg (L1.atE U (ev_var rfl) (ev_var rfl) hn) fun H2 e2 => ?_
  have L2 := L1.ex e2
  have X2 := e1.trans e2
  dsimp only
  obtain ⟨lv, hlv, dlv⟩ := L2.linesE U (te := tVar 3) (σ := (start ["self", "number", "at", "cell", "other"] [.ref nb, .int (n : Int), v2]).set 3 (some (.ref (ad n)))) hn (ev_var rfl)
  have hlen : Ev (tCB (rLenU K) (tCons (tFld K (tVar 3) "lines") tNil)) ((start ["self", "number", "at", "cell", "other"] [.ref nb, .int (n : Int), v2]).set 3 (some (.ref (ad n)))) H2 (.int ((st.cell n).src.length : Int)) := ev_is (ev_lenT (K := K) (evd_of hlv (dp_ex L2.x _ _ dlv))) (by rw [List.length_map])
  refine s_ifN (H0 := H2) (b := !isWithin e0 0 ((st.cell n).src.length : Int)) (et_not (et_b (ev_bl (evd_call (eds_cons (evd_var (dp_ex L2.x _ _ d2)) (eds_cons evd_int (eds_cons (evd_i hlen) eds_nil))) ⟨e0, 0, _, rfl, rfl⟩)))) (Ex.refl _) (fun hb H3 e3 => ?_) fun hb H3 e3 => ?_
  · rw [Bool.not_eq_true'] at hb
    rcases hf with ⟨h, ho, hs⟩ | ⟨k, rfl, hk, _⟩
    · exact no _ (X2.trans e3) ho hs
    · exfalso
      simp [isWithin] at hb
      omega
  rw [Bool.not_eq_false'] at hb
  rcases hf with ⟨h, ho, hs⟩ | ⟨k, rfl, hk, hf⟩
  · rw [h] at hb
    cases hb
  have ei := dp_int d2
  subst ei
  have L3 := L2.ex e3
  have X3 := X2.trans e3
  dsimp only
  refine s_ifN (H0 := H3) (b := decide (st.row.length = 30)) (et_is (et_test (ev_eq (evd_i (K := K) (L3.lenE U (ev_var rfl))) evd_int rfl rfl)) ?_) (Ex.refl _) (fun hb H4 e4 => ?_) fun hb H4 e4 => ?_
  · show ((st.row.length : Int) == 30) = _
    rw [Bool.eq_iff_iff]
    simp
    omega
  · have hb := of_decide_eq_true hb
    rcases hf with ⟨_, ho, hs⟩ | ⟨h, _⟩
    · exact no _ (X3.trans e4) ho hs
    · omega
  have hb := of_decide_eq_false hb
  rcases hf with ⟨h, _⟩ | ⟨h30, haf, rfl, rfl⟩
  · exact absurd h hb
  have L4 := L3.ex e4
  have X4 := X3.trans e4
  have hgn := hG.good n hn
  dsimp only
  obtain ⟨lv4, hlv4, dlv4⟩ := L4.linesE U (te := tVar 3) (σ := (start ["self", "number", "at", "cell", "other"] [.ref nb, .int (n : Int), .int (k : Int)]).set 3 (some (.ref (ad n)))) hn (ev_var rfl)
  have ed : PyData.tuple (cutD ((st.cell n).src.map Rw.enc) (some (k : Int)) none) = encS ((st.cell n).src.drop k) := by
    rw [cut_drop _ _ (by rw [List.length_map]; exact hk), ← List.map_drop]
    rfl
  have hput := st.row.idxOf n
  have hj : st.row.idxOf n < st.row.length := List.idxOf_lt_length_iff.mpr hn
  have hgd := goodS_drop hgn k
  refine s_metAK (K := K) (T := W) (st := st) (st' := putS st (st.row.idxOf n + 1) ((st.cell n).src.drop k)) (o := .inl (.int (st.after : Int))) (fun _ _ _ => rfl) (ev_var rfl) L4.toNB hG (ebs_cons (d := .int ((st.row.idxOf n + 1 : Nat) : Int)) (evb_i L4.x (ev_is (ev_int (ev_addI (K := K) (evd_i (ev_index (K := K) (L4.rowE U (ev_var rfl)) L4.hr hn hG.nd (ev_var rfl))) evd_int)) (by congr 1))) (ebs_cons (evb_is (evb_slT (evb_v L4.x hlv4 dlv4) (eo_some (ev_var rfl)) eo_none) ed) (ebs_nil L4.x))) ⟨_, _, rfl, ok_src _ hgd, .inr (.inr (.inr ⟨st.row.idxOf n + 1, _, rfl, by omega, rfl, hgd, h30, rfl, rfl⟩))⟩ (fun dd ed v H5 B5 M5 f5 hN5 kp5 dv => ?_) fun cc ec => by cases ec
  cases ed
  have ev := dp_int dv
  subst ev
  obtain ⟨dn5, c5, r5, kvs5, ad5, L5⟩ := hN5
  have hn5 : n ∈ (putS st (st.row.idxOf n + 1) ((st.cell n).src.drop k)).row := mem_putS.mpr (.inr hn)
  have ha5 : st.after ∈ (putS st (st.row.idxOf n + 1) ((st.cell n).src.drop k)).row := mem_putS.mpr (.inl rfl)
  have hna : n ≠ st.after := fun z => by have := hG.lt n hn; omega
  have ead : ad n = ad5 n := (L5.adOf (kp5 n hn5 _ (L4.cellIs hn))).2
  have cn5 : (putS st (st.row.idxOf n + 1) ((st.cell n).src.drop k)).cell n = st.cell n := if_neg hna
  have ca5 : (putS st (st.row.idxOf n + 1) ((st.cell n).src.drop k)).cell st.after = newCell ((st.cell n).src.drop k) := if_pos rfl
  obtain ⟨dx6, lv6, rv6, h6, dl6, dr6⟩ := L5.cells _ ha5
  rw [ca5] at h6 dl6 dr6
  rw [ead]
  have st5 := L5.struckE U (te := tVar 3) (σ := ((start ["self", "number", "at", "cell", "other"] [.ref nb, .int (n : Int), .int (k : Int)]).set 3 (some (.ref (ad5 n)))).set 4 (some (.int (st.after : Int)))) hn5 (ev_var rfl)
  rw [cn5] at st5
  dsimp only
  refine s_fld st5 (L5.atE U (ev_var rfl) (ev_var rfl) ha5) h6 U.cC (U.nC (by decide)) (by show 4 < 1000; decide) fun H6 e6 => ?_
  have key6 := (L5.ex e6).setCell (H' := upd H6 (ad5 st.after) (.ins W.C dx6 [("lines", lv6), ("count", .int 0), ("struck", .bl (st.cell n).struck), ("record", rv6)])) (cs := ⟨(st.cell n).src.drop k, 0, (st.cell n).struck, none⟩) (dx := dx6) (lv := lv6) (rv := rv6) ha5 upd_same dl6 dr6 fun a o ha ho => by rw [upd_ne ha]; exact ho
  generalize hH6 : upd H6 (ad5 st.after) (.ins W.C dx6 [("lines", lv6), ("count", .int 0), ("struck", .bl (st.cell n).struck), ("record", rv6)]) = H6' at key6
  have L6 := key6.2
  have hp6 : upd H6 (ad5 st.after) (.ins W.C dx6 (putF "struck" (.bl (st.cell n).struck) [("lines", lv6), ("count", .int ((newCell ((st.cell n).src.drop k)).count : Int)), ("struck", .bl (newCell ((st.cell n).src.drop k)).struck), ("record", rv6)])) = H6' := hH6
  dsimp only
  rw [hp6]
  have cn6 : (LC.setS (putS st (st.row.idxOf n + 1) ((st.cell n).src.drop k)) st.after ⟨(st.cell n).src.drop k, 0, (st.cell n).struck, none⟩).cell n = st.cell n := (if_neg hna).trans cn5
  obtain ⟨dx7, lv7, rv7, h7, dl7, dr7⟩ := L6.cells n hn5
  rw [cn6] at h7 dl7 dr7
  have ed7 : PyData.tuple (cutD ((st.cell n).src.map Rw.enc) none (some (k : Int))) = encS ((st.cell n).src.take k) := by
    rw [cut_take _ _ (by rw [List.length_map]; exact hk), ← List.map_take]
    rfl
  have hl7 : Ev (tFld K (tVar 3) "lines") (((start ["self", "number", "at", "cell", "other"] [.ref nb, .int (n : Int), .int (k : Int)]).set 3 (some (.ref (ad5 n)))).set 4 (some (.int (st.after : Int)))) H6' lv7 := ev_fld (ev_var rfl) h7 U.cC (U.nC (by decide)) rfl
  refine s_fldB (K := K) (B := B5) (evb_is (evb_slT (evb_v L6.x hl7 dl7) eo_none (eo_some (ev_var rfl))) ed7) (ev_var rfl) h7 U.cC (U.nC (by decide)) (by show 4 < 1000; decide) fun v7 H7 B7 g7 d7 => ?_
  dsimp only
  refine s_fldaug (ev_var rfl) upd_same U.cC (U.nC (by decide)) rfl ev_c (by show 4 < 1000; decide) fun H8 e8 => ?_
  dsimp only
  refine s_ret (ev_var rfl) fun H9 e9 => ?_
  have L7 := L6.gr g7
  have key9 := L7.setCell (H' := H9) (cs := ⟨(st.cell n).src.take k, (st.cell n).count + 1, (st.cell n).struck, (st.cell n).recd⟩) (lv := v7) (rv := rv7) (dx := dx7) hn5 (e9 _ _ upd_same) d7 (dr7.mono g7.xd) fun a o ha ho => e9 _ _ (by
    rw [upd_ne ha]
    refine e8 _ _ ?_
    rw [upd_ne ha]
    exact ho)
  have f6 : Fr M5 M5 B5 H5 H6' B5 := (Fr.of (Gr.base L5.x e6)).trans key6.1
  have fin := (((Fr.of (Gr.base L.x X4)).trans f5).trans f6).trans ((Fr.of g7).trans key9.1)
  refine k1 _ rfl _ H9 B7 M5 fin key9.2.toNB (Kept.of L key9.2 fun m hm hmo => ?_) (.int _)
  exact ((L5.adOf (kp5 m hm _ (L4.cellIs hmo))).2).symm
theorem sc_Notebook_join : FnScope ["self", "number", "other", "place"] ["self", "number", "other"] (defScope s_Notebook_join) := ⟨rfl, rfl, rfl, by decide +kernel, rfl, by decide +kernel, by decide +kernel⟩
theorem ok_Notebook_join {f : Addr} {fd : FuncData} {W : NbC} (U : NbT K W) {c_BadSource : Addr} {c_NoCell : Addr} {c_NotNext : Addr} (h_Notebook_drop : HasM P w K mg base (L2.CX P w) 3 W.N "drop" ["self", "number"] (spNb K W (R_drop c_NoCell))) (h_look : Has P w K mg base (L2.CX P w) 11 "look" ["source"] (spDX K c_BadSource F_look)) (x_NotNext : ExcF K mg "NotNext" c_NotNext) (h_Notebook_look_cell : HasM P w K mg base (L2.CX P w) 2 W.N "look_cell" ["self", "number"] (spNq K W (R_look_cell c_NoCell))) (F : FnP K "join" "Notebook.join" s_Notebook_join f fd) (g : Meth K W.N "join" f) (T : Tx mg) : HasM P w K mg base (L2.CX P w) 14 W.N "join" ["self", "number", "other"] (spNb K W (R_join c_NoCell c_NotNext c_BadSource)) := by
  have nd := (sc_Notebook_join).nd
  refine hasM_x F g (F.bindsN fun _ _ _ _ _ _ us hl => match us, hl with | [_, _, _], _ => rfl) sc_Notebook_join (by rintro _ _ _ _ ⟨_, _, _, _, _, _, _, _, rfl, _, _, hd, ⟨_, _, rfl, _⟩, _⟩; exact congrArg (· + 1) (dpAll_len hd)) (fun cdv A outer s H vs Q E hr h => ?_)
  obtain ⟨M, B, nb, st, ws, _, o, st', rfl, hN, hG, hd, ⟨d, e0, rfl, hf⟩, k1, k2⟩ := h
  obtain ⟨v1, v2, rfl, d1, d2⟩ := dts2 hd
  obtain ⟨dn, c, r, kvs, ad, L⟩ := hN
  refine ⟨_, (pss_cons (ps_expr (pe_hm (pv 0) U.cN h_Notebook_look_cell hr (by omega) (passA (passes_call (takes_of rfl rfl rfl rfl) fun _ _ _ _ h => h)) (pa_cons (pv 1) pa_nil)))
      (pss_cons (ps_expr (pe_hm (pv 0) U.cN h_Notebook_look_cell hr (by omega) (passA (passes_call (takes_of rfl rfl rfl rfl) fun _ _ _ _ h => h)) (pa_cons (pv 2) pa_nil)))
      (pss_cons (ps_set (i := 3) nd rfl (Or.inl rfl) (pe_bm PySem.F.plainAttrs_list PySem.F.slot_list_index PySem.F.type_list_index (kIndex (K := K) rfl) (kFld (K := K) rfl (pv 0)) (pa_cons (pv 1) pa_nil)))
      (pss_cons (ps_if (PW.pt (pw_or (pt_cmpR (kNe (K := K) rfl hr.units) (pe_slice (kSl (K := K) rfl) (kFld (K := K) rfl (pv 0)) (po_some (pe_op (kAdd (K := K) rfl) (pv 3) pe_int)) (po_some (pe_op (kAdd (K := K) rfl) (pv 3) pe_int))) (pe_lst (pa_cons (pv 2) pa_nil)) (nomark _)) (pw_or1 (pt_cmpR (kNe (K := K) rfl hr.units) (kFld (K := K) rfl (pe_dget (Nat.lt_of_le_of_lt (Nat.add_le_add_left (by decide) _) hr.units) (kFld (K := K) rfl (pv 0)) (pv 1) (fun _ _ => rfl))) (kFld (K := K) rfl (pe_dget (Nat.lt_of_le_of_lt (Nat.add_le_add_left (by decide) _) hr.units) (kFld (K := K) rfl (pv 0)) (pv 2) (fun _ _ => rfl))) (nomark _))))) (pss_one (ps_raise rfl (takes_of rfl rfl rfl rfl) (pmk_own PySem.F.excBase_ValueError x_NotNext.q x_NotNext.g x_NotNext.k (raises_own x_NotNext.b x_NotNext.t) rfl))) pss_nil)
      (pss_cons (ps_expr (pe_has h_look hr (by omega) rfl (passes_call (takes_of rfl rfl rfl rfl) fun _ _ _ _ h => h) (pa_cons (pe_op (kAdd (K := K) rfl) (kFld (K := K) rfl (pe_dget (Nat.lt_of_le_of_lt (Nat.add_le_add_left (by decide) _) hr.units) (kFld (K := K) rfl (pv 0)) (pv 1) (fun _ _ => rfl))) (kFld (K := K) rfl (pe_dget (Nat.lt_of_le_of_lt (Nat.add_le_add_left (by decide) _) hr.units) (kFld (K := K) rfl (pv 0)) (pv 2) (fun _ _ => rfl)))) pa_nil)))
      (pss_cons (kSetFld (K := K) rfl (pe_dget (Nat.lt_of_le_of_lt (Nat.add_le_add_left (by decide) _) hr.units) (kFld (K := K) rfl (pv 0)) (pv 1) (fun _ _ => rfl)) (pe_op (kAdd (K := K) rfl) (kFld (K := K) rfl (pe_dget (Nat.lt_of_le_of_lt (Nat.add_le_add_left (by decide) _) hr.units) (kFld (K := K) rfl (pv 0)) (pv 1) (fun _ _ => rfl))) (kFld (K := K) rfl (pe_dget (Nat.lt_of_le_of_lt (Nat.add_le_add_left (by decide) _) hr.units) (kFld (K := K) rfl (pv 0)) (pv 2) (fun _ _ => rfl)))))
      (pss_cons (kAugFld (K := K) rfl (pe_dget (Nat.lt_of_le_of_lt (Nat.add_le_add_left (by decide) _) hr.units) (kFld (K := K) rfl (pv 0)) (pv 1) (fun _ _ => rfl)) pe_int)
      (pss_one (ps_expr (pe_hm (pv 0) U.cN h_Notebook_drop hr (by omega) (passA (passes_call (takes_of rfl rfl rfl rfl) fun _ _ _ _ h => h)) (pa_cons (pv 2) pa_nil))))))))))), ?_⟩
  have no : ∀ {H1 : Hp} (cc : Addr), Ex H H1 → o = .inr cc → st' = st → E (.ref cc) none H1 := fun {H1} cc e ho hs => k2 _ ho H1 B M (Fr.of (Gr.base L.x e)) (by rw [hs]; exact (L.ex e).toNB)
  refine s_q (K := K) (T := W) (st := st) (fun _ _ _ => rfl) (ev_var rfl) L.toNB hG (ebs_cons ((evd_var d1).toB L.x) (ebs_nil L.x)) ⟨d, rfl, rfl⟩ (fun z e H1 e1 => ?_) fun cc e H1 e1 => ?_
  rotate_left
  · rcases hf with ⟨h, ho, hs⟩ | ⟨h, _⟩ | ⟨n, hn, m, hm, rfl, _⟩
    · rw [h] at e
      cases e
      exact no _ e1 ho hs
    · rw [h] at e
      cases e
    · rw [cell_int hn] at e
      cases e
  have hc1 : isCellD st d = true := by
    cases hw : isCellD st d with
    | true => rfl
    | false => rw [hw] at e; cases e
  clear e z
  have L1 := L.ex e1
  dsimp only
  refine s_q (K := K) (T := W) (st := st) (fun _ _ _ => rfl) (ev_var rfl) L1.toNB hG (ebs_cons ((evd_var d2).toB L1.x) (ebs_nil L1.x)) ⟨e0, rfl, rfl⟩ (fun z e H2 e2 => ?_) fun cc e H2 e2 => ?_
  rotate_left
  · rcases hf with ⟨h, ho, hs⟩ | ⟨_, h, ho, hs⟩ | ⟨n, hn, m, hm, rfl, rfl, _⟩
    · rw [h] at hc1
      cases hc1
    · rw [h] at e
      cases e
      exact no _ (e1.trans e2) ho hs
    · rw [cell_int hm] at e
      cases e
  rcases hf with ⟨h, _⟩ | ⟨_, h, _⟩ | ⟨n, hn, m, hm, rfl, rfl, hf⟩
  · rw [h] at hc1
    cases hc1
  · rw [h] at e
    cases e
  clear e z hc1
  have X2 := e1.trans e2
  have L2 := L.ex X2
  have ei := dp_int d1
  subst ei
  have ei := dp_int d2
  subst ei
  dsimp only
  refine s_asg (ev_index (K := K) (L2.rowE U (ev_var rfl)) L2.hr hn hG.nd (ev_var rfl)) fun H3 e3 => ?_
  have X3 := X2.trans e3
  have L3 := L.ex X3
  dsimp only
  refine s_ifN (H0 := H3) (b := !decide (nextOf st n = [m]) || !decide ((st.cell n).struck = (st.cell m).struck)) (et_or (et_is (et_test (ev_ne (K := K) (evd_slL (evd_of (L3.rowE U (ev_var rfl)) L3.dtRow) (eo_some (ev_int (ev_addI (K := K) (i := (st.row.idxOf n : Int)) (j := 1) (evd_var (.int _)) evd_int))) (eo_some (ev_int (ev_addI (K := K) (i := (st.row.idxOf n : Int)) (j := 2) (evd_var (.int _)) evd_int)))) (evd_lst (eds_cons (evd_var (.int (m : Int))) eds_nil) (by simp)) ?_ rfl)) ?_) fun _ => et_is (et_test (ev_ne (K := K) (evd_b (L3.struckE U hn (L3.atE U (ev_var rfl) (ev_var rfl) hn))) (evd_b (L3.struckE U hm (L3.atE U (ev_var rfl) (ev_var rfl) hm))) rfl rfl)) ?_) (Ex.refl _) (fun hb H4 e4 => ?_) fun hb H4 e4 => ?_
  · refine shaped_of (ok_lst_of fun d hd => ?_) (Nat.le_trans (depth_list (n := 0) fun d hd => ?_) (by decide))
    · obtain ⟨q, _, rfl⟩ := List.mem_map.mp (List.mem_of_mem_drop (List.mem_of_mem_take hd))
      rfl
    · obtain ⟨q, _, rfl⟩ := List.mem_map.mp (List.mem_of_mem_drop (List.mem_of_mem_take hd))
      exact Nat.le_refl _
  · rw [next_ne st n m hn]
  · show (!((st.cell n).struck == (st.cell m).struck)) = _
    rfl
  · have hb : nextOf st n ≠ [m] ∨ (st.cell n).struck ≠ (st.cell m).struck := by simpa using hb
    rcases hf with ⟨_, ho, hs⟩ | ⟨h1, h2, _⟩
    · exact no _ (X3.trans e4) ho hs
    · rcases hb with hb | hb
      · exact absurd h1 hb
      · exact absurd h2 hb
  have hb : nextOf st n = [m] ∧ (st.cell n).struck = (st.cell m).struck := by simpa using hb
  rcases hf with ⟨h, _⟩ | ⟨_, _, hf⟩
  · rcases h with h | h
    · exact absurd hb.1 h
    · exact absurd hb.2 h
  have X4 := X3.trans e4
  have L4 := L.ex X4
  have gn := hG.good n hn
  have gm := hG.good m hm
  dsimp only
  have len8 := goodS_len gn
  have len8' := goodS_len gm
  have cat : ∀ {H1 : Hp} {σ1 : List (Option V)}, NbL K W M B H1 nb st dn c r kvs ad → σ1[0]? = some (some (V.ref nb)) → σ1[1]? = some (some (V.int (n : Int))) → σ1[2]? = some (some (V.int (m : Int))) → EvB K (tOp (rAddU K) (tFld K (tDGet (tFld K (tVar 0) "cells") (tVar 1)) "lines") (tFld K (tDGet (tFld K (tVar 0) "cells") (tVar 2)) "lines")) σ1 B H1 (encS ((st.cell n).src ++ (st.cell m).src)) := fun {H1 σ1} L1 s0 s1 s2 => by
    obtain ⟨lv1, q1, w1⟩ := L1.linesE U hn (L1.atE U (ev_var s0) (ev_var s1) hn)
    obtain ⟨lv2, q2, w2⟩ := L1.linesE U hm (L1.atE U (ev_var s0) (ev_var s2) hm)
    exact evb_is (evb_addT (evb_v L1.x q1 w1) (evb_v L1.x q2 w2) (by rw [List.length_map, List.length_map]; omega)) (enc_app _ _)
  refine s_callX (cB := c_BadSource) (eds_cons (EvB.toD ((cat L4 rfl rfl rfl).wide L4.x (Ex.refl _))) eds_nil) (Ex.refl _) ⟨_, rfl, ok_app gn gm, rfl⟩ (fun z e H5 e5 => ?_) fun e H5 e5 => ?_
  rotate_left
  · rcases hf with ⟨_, ho, hs⟩ | ⟨h, _⟩
    · exact no _ (X4.trans e5) ho hs
    · rw [source_app gn gm, decide_eq_true h] at e; cases e
  rcases hf with ⟨h, _⟩ | ⟨h8, hcnt, rfl, rfl⟩
  · rw [source_app gn gm, decide_eq_false (by omega)] at e; cases e
  clear e z
  have X5 := X4.trans e5
  have L5 := L.ex X5
  dsimp only
  obtain ⟨dx, lv, rv, h1, h2, h3⟩ := L5.cells n hn
  refine s_fldB (cat L5 rfl rfl rfl) (L5.atE U (ev_var rfl) (ev_var rfl) hn) h1 U.cC (U.nC (by decide)) (by show 4 < 1000; decide) fun v6 H6 B6 g6 d6 => ?_
  have L6 := L5.gr g6
  have key7 := L6.setCell (H' := upd H6 (ad n) (.ins W.C dx [("lines", v6), ("count", .int ((st.cell n).count : Int)), ("struck", .bl (st.cell n).struck), ("record", rv)])) (cs := ⟨(st.cell n).src ++ (st.cell m).src, (st.cell n).count, (st.cell n).struck, (st.cell n).recd⟩) (lv := v6) (rv := rv) (dx := dx) hn upd_same d6 (h3.mono g6.xd) fun a o ha ho => by rw [upd_ne ha]; exact ho
  dsimp only
  have n7 := key7.2.atE U (ta := tVar 0) (ty := tVar 1) (σ := (start ["self", "number", "other", "place"] [.ref nb, .int (n : Int), .int (m : Int)]).set 3 (some (.int (st.row.idxOf n : Int)))) (ev_var rfl) (ev_var rfl) hn
  refine s_fldaug n7 upd_same U.cC (U.nC (by decide)) rfl ev_c (by show 4 < 1000; decide) fun H8 e8 => ?_
  have key8 := L6.setCell (H' := upd H8 (ad n) (.ins W.C dx [("lines", v6), ("count", .int (((st.cell n).count : Int) + 1)), ("struck", .bl (st.cell n).struck), ("record", rv)])) (cs := ⟨(st.cell n).src ++ (st.cell m).src, (st.cell n).count + 1, (st.cell n).struck, (st.cell n).recd⟩) (lv := v6) (rv := rv) (dx := dx) hn upd_same d6 (h3.mono g6.xd) fun a o ha ho => by
    rw [upd_ne ha]
    refine e8 _ _ ?_
    rw [upd_ne ha]
    exact ho
  dsimp only
  have G8 := hG.setS (n := n) (c := ⟨(st.cell n).src ++ (st.cell m).src, (st.cell n).count + 1, (st.cell n).struck, (st.cell n).recd⟩) (goodS_app gn gm h8) hcnt
  have f8 : Fr M M B H (upd H8 (ad n) (.ins W.C dx [("lines", v6), ("count", .int (((st.cell n).count : Int) + 1)), ("struck", .bl (st.cell n).struck), ("record", rv)])) B6 := ((Fr.of (Gr.base L.x X5)).trans (Fr.of g6)).trans key8.1
  refine t_metK (Q := fun _ H' => Q .non H') (K := K) (T := W) (o := .inl .none) (fun _ _ _ => rfl) (ev_var rfl) key8.2.toNB G8 (ebs_cons (evb_i key8.2.x (ev_var rfl)) (ebs_nil key8.2.x)) ⟨_, rfl, .inr ⟨m, hm, rfl, rfl, rfl⟩⟩ (fun dd ed v H9 B9 M9 f9 hN9 kp9 dv => ?_) fun cc ec => by cases ec
  cases ed
  have kp8 := Kept.of L key8.2 fun _ _ _ => rfl
  refine k1 _ rfl _ H9 B9 M9 (f8.trans f9) hN9 (Kept.trans (row := st.row) kp8 kp9 fun q hq => ((mem_dropS G8).mp hq).2) .non
theorem sc_Notebook_numbers : FnScope ["self"] ["self"] (defScope s_Notebook_numbers) := ⟨rfl, rfl, rfl, by decide +kernel, rfl, by decide +kernel, by decide +kernel⟩
theorem ok_Notebook_numbers {f : Addr} {fd : FuncData} {W : NbC} (U : NbT K W) (F : FnP K "numbers" "Notebook.numbers" s_Notebook_numbers f fd) (g : Meth K W.N "numbers" f) (T : Tx mg) : HasM P w K mg base CX0 1 W.N "numbers" ["self"] (spNq K W R_numbers) := by
  have nd := (sc_Notebook_numbers).nd
  refine hasM_p F g (F.bindsN fun _ _ _ _ _ _ us hl => match us, hl with | [_], _ => rfl) sc_Notebook_numbers (by rintro _ _ _ _ ⟨_, _, _, _, _, _, _, rfl, _, _, hd, ⟨rfl, _⟩, _⟩; exact congrArg (· + 1) (dpAll_len hd)) (fun cdv A outer s H vs Q E hr h => ?_)
  obtain ⟨M, B, nb, st, ws, _, o, rfl, hN, hG, hd, ⟨rfl, rfl⟩, k1, k2⟩ := h
  cases hd
  obtain ⟨dn, c, r, kvs, ad, L⟩ := hN
  refine ⟨_, (pss_one (ps_ret (pe_callTy (kLst (K := K) rfl) rfl (T.free (by decide)) boot_list (pa_cons (kFld (K := K) rfl (pv 0)) pa_nil)))), ?_⟩
  have hi : DtAll K B (st.row.map fun n : Nat => V.int (n : Int)) (st.row.map fun n : Nat => PyData.int (n : Int)) := by
    have := dt_ints (K := K) (H := B) (st.row.map fun n : Nat => (n : Int))
    rw [List.map_map, List.map_map] at this
    exact this
  exact s_retB (evb_copy L.x (L.rowE U (ev_var rfl)) L.hr hi) (k1 _ rfl)
theorem sc_Notebook_source : FnScope ["self", "number"] ["self", "number"] (defScope s_Notebook_source) := ⟨rfl, rfl, rfl, by decide +kernel, rfl, by decide +kernel, by decide +kernel⟩
theorem ok_Notebook_source {f : Addr} {fd : FuncData} {W : NbC} (U : NbT K W) {c_NoCell : Addr} (h_Notebook_look_cell : HasM P w K mg base (L2.CX P w) 2 W.N "look_cell" ["self", "number"] (spNq K W (R_look_cell c_NoCell))) (F : FnP K "source" "Notebook.source" s_Notebook_source f fd) (g : Meth K W.N "source" f) (T : Tx mg) : HasM P w K mg base (L2.CX P w) 3 W.N "source" ["self", "number"] (spNq K W (R_source c_NoCell)) := by
  have nd := (sc_Notebook_source).nd
  refine hasM_x F g (F.bindsN fun _ _ _ _ _ _ us hl => match us, hl with | [_, _], _ => rfl) sc_Notebook_source (by rintro _ _ _ _ ⟨_, _, _, _, _, _, _, rfl, _, _, hd, ⟨_, rfl, _⟩, _⟩; exact congrArg (· + 1) (dpAll_len hd)) (fun cdv A outer s H vs Q E hr h => ?_)
  obtain ⟨M, B, nb, st, ws, _, o, rfl, hN, hG, hd, ⟨d, rfl, hf⟩, k1, k2⟩ := h
  obtain ⟨v1, rfl, d1⟩ := dts1 hd
  obtain ⟨dn, c, r, kvs, ad, L⟩ := hN
  refine ⟨_, (pss_cons (ps_expr (pe_hm (pv 0) U.cN h_Notebook_look_cell hr (by omega) (passA (passes_call (takes_of rfl rfl rfl rfl) fun _ _ _ _ h => h)) (pa_cons (pv 1) pa_nil)))
      (pss_one (ps_ret (kFld (K := K) rfl (pe_dget (Nat.lt_of_le_of_lt (Nat.add_le_add_left (by decide) _) hr.units) (kFld (K := K) rfl (pv 0)) (pv 1) (fun _ _ => rfl)))))), ?_⟩
  refine s_q (K := K) (T := W) (st := st) (fun _ _ _ => rfl) (ev_var rfl) L.toNB hG (ebs_cons ((evd_var d1).toB L.x) (ebs_nil L.x)) ⟨d, rfl, rfl⟩ (fun z e H1 e1 => ?_) fun cc e H1 e1 => ?_
  rotate_left
  · rcases hf with ⟨h, ho⟩ | ⟨n, hn, rfl, ho⟩
    · rw [h] at e
      cases e
      exact k2 _ ho H1 e1
    · rw [cell_int hn] at e
      cases e
  · rcases hf with ⟨h, ho⟩ | ⟨n, hn, rfl, ho⟩
    · rw [h] at e
      cases e
    · have L1 := L.ex e1
      have ei := dp_int d1
      subst ei
      have at_ : Ev (tDGet (tFld K (tVar 0) "cells") (tVar 1)) (start ["self", "number"] [.ref nb, .int (n : Int)]) H1 (.ref (ad n)) := L1.atE U (ev_var rfl) (ev_var rfl) hn
      obtain ⟨lv, h1, h2⟩ := L1.linesE U hn at_
      exact s_retB (evb_v L1.x h1 h2) fun v H2 Hd g hv => k1 _ ho v H2 Hd (g.after e1) hv
theorem sc_law_cell : FnScope ["script", "k"] ["script", "k"] (defScope s_law_cell) := ⟨rfl, rfl, rfl, by decide +kernel, rfl, by decide +kernel, by decide +kernel⟩
theorem ok_law_cell {f : Addr} {fd : FuncData} (F : FnP K "_law_cell" "_law_cell" s_law_cell f fd) (g : mg "_law_cell" = some (.ref f)) (T : Tx mg)  : Has P w K mg base CX0 1 "_law_cell" ["script", "k"] (spLcell K) := by
  have nd := (sc_law_cell).nd
  refine has_p F g (F.bindsN fun _ _ _ _ _ _ us hl => match us, hl with | [_, _], _ => rfl) sc_law_cell (by rintro _ _ _ _ ⟨_, _, _, rfl, _⟩; rfl) (fun cdv A outer s H vs Q E hr h => ?_)
  obtain ⟨a, ns, i, rfl, hS, hi, hl, k⟩ := h
  refine ⟨_, (pss_cons (ps_if (pt_cmpR op_lt (pv 1) (pe_callB (kLen (K := K) rfl) rfl (T.free (by decide)) boot_len (pa_cons (pv 0) pa_nil)) (nomark _)) (pss_one (ps_ret (pe_ix (kIx (K := K) rfl) (pv 0) (pv 1) (fun _ _ => rfl)))) pss_nil)
      (pss_one (ps_ret pe_int))), ?_⟩
  refine s_ifD (H0 := H) (b := decide (i < (ns.length : Int))) (et_test (ev_is (ev_op (ev_var rfl) (fun H1 e Q q => ⟨_, rfl, _, ns.length, rfl, .inl ⟨_, ex_l e hS, by rw [List.length_map]⟩, q H1 (Ex.refl H1)⟩) rv_I0) rfl)) (Ex.refl H) (fun hb H1 e1 => ?_) fun hb H1 e1 => ?_
  · have hb := of_decide_eq_true hb
    refine ⟨_, rfl, _, rfl, .inl ⟨a, _, i, .int (cellAt ns i), rfl, rfl, ex_l e1 hS, ?_, k H1 e1⟩⟩
    unfold cellAt
    rw [getD_atI _ _ (.int 0) hi (by rw [List.length_map]; exact hb), List.getD_eq_getElem?_getD, List.getD_eq_getElem?_getD, List.getElem?_map]
    cases ns[i.toNat]? <;> rfl
  · have hb := of_decide_eq_false hb
    have e0 : cellAt ns i = 0 := by
      unfold cellAt
      rw [List.getD_eq_getElem?_getD, List.getElem?_eq_none (by omega)]
      rfl
    rw [e0] at k
    exact k H1 e1
theorem sc_law_mix : FnScope ["cell", "prime", "many"] ["cell", "prime", "many"] (defScope s_law_mix) := ⟨rfl, rfl, rfl, by decide +kernel, rfl, by decide +kernel, by decide +kernel⟩
theorem ok_law_mix {f : Addr} {fd : FuncData} (F : FnP K "_law_mix" "_law_mix" s_law_mix f fd) (g : mg "_law_mix" = some (.ref f)) (T : Tx mg)  : Has P w K mg base CX0 1 "_law_mix" ["cell", "prime", "many"] (spD K F_mix) := by
  have nd := (sc_law_mix).nd
  refine has_d (FF := F_mix) F g (F.bindsN fun _ _ _ _ _ _ us hl => match us, hl with | [_, _, _], _ => rfl) sc_law_mix (by rintro _ _ ⟨_, _, _, rfl, _⟩; rfl) (fun cdv A outer s H vs Q E ds d H0 hr x hd hf k => ?_)
  obtain ⟨a, b, m, rfl, hb0, hb1, hm0, rfl⟩ := hf
  obtain ⟨v0, v1, v2, rfl, d0, d1, d2⟩ := dts3 hd
  refine ⟨_, (pss_one (ps_ret (pe_op op_mod (pe_op op_mod (pe_op op_pow (pe_op op_mod (pe_op (kMul (K := K) rfl) (pv 0) pe_int) (pv 1)) pe_int) (pv 1)) (pv 2)))), ?_⟩
  have m0 : (a * 48271 % b).natAbs < 2 ^ 64 := by
    have h := mod_lt10 (a * 48271) b hb0
    omega
  exact s_retD (evd_i (ev_I (K := K) (C := fun _ j => 0 < j) (g := fun i j => .int (i % j)) (evd_i (ev_I (K := K) (C := fun _ j => 0 < j) (g := fun i j => .int (i % j)) (evd_i (ev_I (K := K) (C := CPow) (g := fun i j => .int (i ^ j.toNat)) (evd_i (ev_I (K := K) (C := fun _ j => 0 < j) (g := fun i j => .int (i % j))
    (evd_mulI (evd_var d0) evd_int (.inr (by decide))) (evd_var d1) hb0)) evd_int ⟨by decide, by decide, m0⟩)) (evd_var d1) hb0)) (evd_var d2) hm0)) x k
theorem sc_law : FnScope ["script", "notebook", "rows", "k", "before", "caught", "way", "first", "last", "many"] ["script"] (defScope s_law) := ⟨rfl, rfl, rfl, by decide +kernel, rfl, by decide +kernel, by decide +kernel⟩
theorem ok_law {f : Addr} {fd : FuncData} (F : FnP K "law" "law" s_law f fd) (g : mg "law" = some (.ref f)) (T : Tx mg) {W : NbC} (U : NbT K W) {c_Full : Addr} {c_BadSource : Addr} (h_Notebook_numbers : HasM P w K mg base CX0 1 W.N "numbers" ["self"] (spNq K W R_numbers)) (x_BadSource : ExcF K mg "BadSource" c_BadSource) (e_BadSource_BadSource : PySem.W.exmOne K (.ref c_BadSource) (.ref c_BadSource) = some true) (h_Notebook_join : HasM P w K mg base (L2.CX P w) 14 W.N "join" ["self", "number", "other"] (spNb K W (R_join c_NoCell c_NotNext c_BadSource))) (h_Notebook_source : HasM P w K mg base (L2.CX P w) 3 W.N "source" ["self", "number"] (spNq K W (R_source c_NoCell))) (h_Notebook_put : HasM P w K mg base (L2.CX P w) 12 W.N "put" ["self", "place", "source"] (spNb K W (R_put c_BadNumber c_BadSource c_Full))) (h_Notebook_drop : HasM P w K mg base (L2.CX P w) 3 W.N "drop" ["self", "number"] (spNb K W (R_drop c_NoCell))) (x_Full : ExcF K mg "Full" c_Full) (e_Full_Full : PySem.W.exmOne K (.ref c_Full) (.ref c_Full) = some true) (h_Notebook_cut : HasM P w K mg base (L2.CX P w) 13 W.N "cut" ["self", "number", "at"] (spNb K W (R_cut c_NoCell c_BadNumber c_Full))) (h__law_mix : Has P w K mg base CX0 1 "_law_mix" ["cell", "prime", "many"] (spD K F_mix)) (h__law_cell : Has P w K mg base CX0 1 "_law_cell" ["script", "k"] (spLcell K)) (i_Notebook : HasI P w K mg base CX0 1 W.N "Notebook" ["self"] (spNbI K W)) : HasF P w K mg base CX0 30 "law" ["script"] (spLaw K) f fd := by
  have nd := (sc_law).nd
  refine hasF_p F g (F.bindsN fun _ _ _ _ _ _ us hl => match us, hl with | [_], _ => rfl) sc_law (by rintro _ _ _ _ ⟨_, _, rfl, _⟩; rfl) (fun cdv A outer s H vs Q E hr h => ?_)
  obtain ⟨a, ns, rfl, hS, hl, k⟩ := h
  refine ⟨_, (pss_cons (ps_set (i := 1) nd rfl (Or.inl rfl) (pe_mk0 i_Notebook hr (by omega) rfl pass0))
      (pss_cons (ps_set (i := 2) nd rfl (Or.inl rfl) (pe_callTy (kTup (K := K) rfl) rfl (T.free (by decide)) boot_tuple (pa_cons (pe_lc (own := [("k", 3)]) rfl nd (pi_range1 rfl (T.free (by decide)) (pa_cons (pe_op (kAdd (K := K) rfl) pe_int (pe_op op_mod (pe_has h__law_cell hr (by omega) rfl pass0 (pa_cons (pv 0) (pa_cons pe_int pa_nil))) pe_int)) pa_nil)) (blkOk_by (N := ["script", "notebook", "rows", "k", "before", "caught", "way", "first", "last", "many"]) (sc := defScope s_law) (own := [("k", 3)]) (by decide +kernel)) (fun _ _ _ _ _ => (pg_name (i := 3) nd rfl (Or.inl rfl))) (fun _ _ _ _ _ => pts_nil) (fun _ _ _ _ _ => (pe_tup (pa_cons pe_str (pa_cons (pv 3) pa_nil))))) pa_nil)))
      (pss_cons (ps_for PassesOwn.never rfl (pi_range1 rfl (T.free (by decide)) (pa_cons pe_int pa_nil)) (pg_name (i := 3) nd rfl (Or.inl rfl)) (pss_one (ps_if (PW.pt (pw_and (pt_cmpR op_gt (pv 3) pe_int (nomark _)) (pw_and1 (pt_cmpR (kEq (K := K) rfl hr.units) (pe_has h__law_mix hr (by omega) rfl pass0 (pa_cons (pe_op (kAdd (K := K) rfl) (pe_has h__law_cell hr (by omega) rfl pass0 (pa_cons (pv 0) (pa_cons pe_int pa_nil))) (pv 3)) (pa_cons pe_int (pa_cons pe_int pa_nil)))) pe_int (nomark _))))) (pss_one (ps_if (pt_cmpR (kNe (K := K) rfl hr.units) (pe_hm (pv 1) U.cN h_Notebook_cut hr (by omega) (passA passL) (pa_cons (pe_op op_sub (pv 3) pe_int) (pa_cons pe_int pa_nil))) (pv 3) (nomark _)) (pss_one (ps_ret pe_bl)) pss_nil)) (pss_one (ps_if (pt_cmpR (kNe (K := K) rfl hr.units) (pe_hm (pv 1) U.cN h_Notebook_put hr (by omega) (passA passL) (pa_cons (pe_ix (kIx (K := K) rfl) (pe_lst (pa_cons pe_int (pa_cons (pv 3) pa_nil))) (pe_op op_mod (pe_has h__law_cell hr (by omega) rfl pass0 (pa_cons (pv 0) (pa_cons pe_int pa_nil))) pe_int) (fun _ _ => rfl)) (pa_cons (pv 2) pa_nil))) (pv 3) (nomark _)) (pss_one (ps_ret pe_bl)) pss_nil)))))
      (pss_cons (ps_set (i := 4) nd rfl (Or.inl rfl) (pe_hm0 (pv 1) U.cN h_Notebook_numbers hr (by omega) (passA pass0)))
      (pss_cons (ps_set (i := 5) nd rfl (Or.inl rfl) pe_int)
      (pss_cons (ps_for PassesOwn.never rfl (pi_range1 rfl (T.free (by decide)) (pa_cons pe_int pa_nil)) (pg_name (i := 6) nd rfl (Or.inl rfl)) (pss_one (ps_try_only rfl rfl ⟨rfl, by decide, Or.inl x_Full.g⟩ takes0 (fun W pn xe tk _ => (pss_one (ps_if (pt_cmpR (kEq (K := K) rfl hr.units) (pv 6) pe_int (nomark _)) (pss_one (ps_expr (pe_hm (pv 1) U.cN h_Notebook_put hr (by omega) (fun σ => passAt tk σ) (pa_cons pe_int (pa_cons (pv 2) pa_nil))))) (pss_one (ps_expr (pe_hm (pv 1) U.cN h_Notebook_cut hr (by omega) (fun σ => passAt tk σ) (pa_cons pe_int (pa_cons pe_int pa_nil)))))))) (fun _ _ _ _ _ _ _ => (pss_one (ps_aug (i := 5) nd rfl (.inl rfl) pe_int ip_add))))))
      (pss_cons (ps_if (PW.pt (pw_or (pt_cmpR (kNe (K := K) rfl hr.units) (pv 5) pe_int (nomark _)) (pw_or (pt_cmpR (kNe (K := K) rfl hr.units) (pe_hm0 (pv 1) U.cN h_Notebook_numbers hr (by omega) (passA pass0)) (pv 4) (nomark _)) (pw_or1 (pt_cmpR (kNe (K := K) rfl hr.units) (pe_callB (kSortL (K := K) rfl) rfl (T.free (by decide)) boot_sorted (pa_cons (pv 4) pa_nil)) (pe_listRg rfl rfl (T.free (by decide)) (prg_1 rfl (T.free (by decide)) pe_int)) (nomark _)))))) (pss_one (ps_ret pe_bl)) pss_nil)
      (pss_cons (ps_set (i := 7) nd rfl (Or.inl rfl) (pe_ix (kIx (K := K) rfl) (pv 4) pe_int (fun _ _ => rfl)))
      (pss_cons (ps_expr (pe_hm (pv 1) U.cN h_Notebook_drop hr (by omega) (passA passL) (pa_cons (pv 7) pa_nil)))
      (pss_cons (ps_if (PW.pt (pw_or (pt_cmpR (kNe (K := K) rfl hr.units) (pe_hm (pv 1) U.cN h_Notebook_put hr (by omega) (passA passL) (pa_cons pe_int (pa_cons (pe_op (kAdd (K := K) rfl) (pv 2) (pe_slice (kSl (K := K) rfl) (pv 2) po_none (po_some (pe_op op_sub pe_int (pe_callB (kLen (K := K) rfl) rfl (T.free (by decide)) boot_len (pa_cons (pv 2) pa_nil)))))) pa_nil))) pe_int (nomark _)) (pw_or1 (pt_cmpR (kNe (K := K) rfl hr.units) (pe_hm0 (pv 1) U.cN h_Notebook_numbers hr (by omega) (passA pass0)) (pe_op (kAdd (K := K) rfl) (pe_slice (kSl (K := K) rfl) (pv 4) (po_some pe_int) po_none) (pe_lst (pa_cons pe_int pa_nil))) (nomark _))))) (pss_one (ps_ret pe_bl)) pss_nil)
      (pss_cons (ps_set (i := 8) nd rfl (Or.inl rfl) (pe_ix (kIx (K := K) rfl) (pe_hm0 (pv 1) U.cN h_Notebook_numbers hr (by omega) (passA pass0)) (pe_un un_neg pe_int) (fun _ _ => rfl)))
      (pss_cons (ps_set (i := 9) nd rfl (Or.inl rfl) (pe_op (kAdd (K := K) rfl) (pe_callB (kLen (K := K) rfl) rfl (T.free (by decide)) boot_len (pa_cons (pe_hm (pv 1) U.cN h_Notebook_source hr (by omega) (passA passL) (pa_cons (pv 8) pa_nil)) pa_nil)) (pe_callB (kLen (K := K) rfl) rfl (T.free (by decide)) boot_len (pa_cons (pe_hm (pv 1) U.cN h_Notebook_source hr (by omega) (passA passL) (pa_cons pe_int pa_nil)) pa_nil))))
      (pss_cons (ps_set (i := 5) nd rfl (Or.inl rfl) pe_int)
      (pss_cons (ps_try_only rfl rfl ⟨rfl, by decide, Or.inl x_BadSource.g⟩ takes0 (fun W pn xe tk _ => (pss_one (ps_expr (pe_hm (pv 1) U.cN h_Notebook_join hr (by omega) (fun σ => passAt tk σ) (pa_cons (pv 8) (pa_cons pe_int pa_nil)))))) (fun _ _ _ _ _ _ _ => (pss_one (ps_set (i := 5) nd rfl (Or.inl rfl) pe_int))))
      (pss_cons (ps_if (pt_cmpR (kNe (K := K) rfl hr.units) (pv 5) (pe_callTy call_int1 rfl (T.free (by decide)) boot_int (pa_cons (pe_cmpR op_gt (pv 9) pe_int (nomark _)) pa_nil)) (nomark _)) (pss_one (ps_ret pe_bl)) pss_nil)
      (pss_one (ps_ret (pe_and (pe_cmpR (kEq (K := K) rfl hr.units) (pe_callB (kLen (K := K) rfl) rfl (T.free (by decide)) boot_len (pa_cons (pe_hm0 (pv 1) U.cN h_Notebook_numbers hr (by omega) (passA pass0)) pa_nil)) (pe_op (kAdd (K := K) rfl) pe_int (pv 5)) (nomark _)) (pe_one (pe_cmpR (kNotIn (K := K) rfl) (pv 7) (pe_hm0 (pv 1) U.cN h_Notebook_numbers hr (by omega) (passA pass0)) rfl)))))))))))))))))))), ?_⟩
  refine s_new_nb (K := K) (Ex.refl H) fun nb H1 M e1 hN hM => ?_
  dsimp only
  obtain ⟨many, hmany, hm1, hm8⟩ : ∃ m : Nat, 1 + cellAt ns 0 % 8 = (m : Int) ∧ 1 ≤ m ∧ m ≤ 8 := by
    have := mod_lt10 (cellAt ns 0) 8 (by omega)
    exact ⟨(1 + cellAt ns 0 % 8).toNat, by omega, by omega, by omega⟩
  have hg0 := rowsS_good hm8
  refine s_asgD (K := K) (H0 := H) (d := encS (rowsS many)) (evd_is (evd_tupL (evd_lcR (n := many) (fun i => (Rw.shw (.num (i : Int))).enc) (eds_cons (evd_is (ev_addI (i := 1) evd_int (evd_i (ev_I (K := K) (C := fun _ j => 0 < j) (g := fun i j => .int (i % j)) (evd_cell (ev_var rfl) ev_c hS (by decide) hl) evd_int (by decide)))) (congrArg PyData.int hmany)) eds_nil) (by omega) (fun _ => rfl) fun i H1 e1 hi => evd_tup (eds_cons evd_str (eds_cons (evd_var (.int _)) eds_nil)) (by simp))) (by unfold encS rowsS; rw [List.map_map]; rfl)) e1 fun v2 H2 B2 g2 d2 => ?_
  have hN2 := hN.gr g2
  have hS2 := ex_l g2.xd hS
  clear hN
  dsimp only
  refine s_forN (K := K) (H0 := B2) (n := 30) (eds_cons evd_int eds_nil) hN2.x (by decide) (fun i σ' H' => ∃ M' B' st o, σ' = [some (.ref a), some (.ref nb), some v2, o, none, none, none, none, none, none] ∧ NB K W M' B' H' nb st ∧ I19 st i ∧ Ex B2 B') (fun H3 e3 => ⟨M, B2, st0, none, rfl, hN2.ex e3, I19.st0, Ex.refl _⟩) ?_ ?_
  · rintro i σ' H' hi ⟨M', B', st, o, rfl, hN', I, xb⟩
    have xB := hN'.x
    have hS' := ex_l xb hS2
    refine s_ifD (H0 := B') (et_and (a := decide ((0 : Int) < (i : Int))) (et_test (ev_I0 (K := K) (evd_var (.int (i : Int))) evd_int)) fun _ => et_test (ev_eq (K := K) (evd_call (eds_cons (ev_addI (evd_cell (ev_var rfl) ev_c hS' (by decide) hl) (evd_var (.int (i : Int)))) (eds_cons evd_int (eds_cons evd_int eds_nil))) ⟨_, _, _, rfl, by decide, by decide, by decide, rfl⟩) evd_int rfl rfl)) xB (fun hb H4 e4 => ?_) fun hb H4 e4 => ?_
    · have hi0 : (0 : Int) < (i : Int) := of_decide_eq_true (Bool.and_eq_true_iff.mp hb).1
      have hm : i - 1 ∈ st.row := I.all (by omega)
      have hN4 := hN'.ex e4
      refine tt_op (t_met (K := K) (T := W) (st := st) (st' := cutS st (i - 1) 0) (o := .inl (.int (i : Int))) (fun _ _ _ => rfl) (ev_var rfl) hN4 I.G (ebs_cons (d := .int ((i - 1 : Nat) : Int)) (evb_i hN4.x (ev_is (ev_I0 (K := K) (evd_var (.int (i : Int))) evd_int) (congrArg V.int (by omega)))) (ebs_cons (evb_i hN4.x ev_c) (ebs_nil hN4.x))) ⟨_, _, rfl, .inr ⟨i - 1, hm, rfl, .inr ⟨0, rfl, Nat.zero_le _, .inr ⟨by rw [I.len]; exact hi, by rw [I.af]; omega, by rw [I.af], rfl⟩⟩⟩⟩ (fun d e v H5 B5 M5 f5 hN5 hd => ?_) fun c e => by cases e)
      cases e
      refine k_ne hd hN5.x (evb_i hN5.x (ev_var rfl)) rfl rfl fun H6 e6 => ?_
      rw [SeqAt.eqv_refl _ (SeqAt.canLay_of_shaped rfl)]
      exact ⟨M5, B5, _, _, rfl, hN5.ex e6, I.cut hi hm, xb.trans f5.xd⟩
    · have hN4 := hN'.ex e4
      obtain ⟨j, hj, hj2⟩ : ∃ m : Nat, cellAt ns 2 % 2 = (m : Int) ∧ m < 2 := by
        have := mod_lt10 (cellAt ns 2) 2 (by omega)
        exact ⟨(cellAt ns 2 % 2).toNat, by omega, by omega⟩
      have hpl : atI [PyData.int 0, .int (i : Int)] (cellAt ns 2 % 2) = some (.int ((if j = 0 then 0 else i : Nat) : Int)) := by
        rw [hj]
        have : j = 0 ∨ j = 1 := by omega
        rcases this with rfl | rfl <;> rfl
      refine tt_op (t_met (K := K) (T := W) (st := st) (st' := putS st (if j = 0 then 0 else i) (rowsS many)) (o := .inl (.int (i : Int))) (fun _ _ _ => rfl) (ev_var rfl) hN4 I.G (ebs_cons (EvD.toB (evd_ixL (evd_lst (eds_cons evd_int (eds_cons (evd_var (.int (i : Int))) eds_nil)) (by simp)) (evd_i (ev_I (K := K) (C := fun _ j => 0 < j) (g := fun i j => .int (i % j)) (evd_cell (ev_var rfl) ev_c hS' (by decide) hl) evd_int (by decide))) hpl) hN4.x) (ebs_cons ((evd_var (dp_ex xb _ _ d2)).toB hN4.x) (ebs_nil hN4.x))) ⟨_, _, rfl, ok_src _ hg0, .inr (.inr (.inr ⟨_, _, rfl, ?_, rfl, hg0, by rw [I.len]; exact hi, by rw [I.af], rfl⟩))⟩ (fun d e v H5 B5 M5 f5 hN5 hd => ?_) fun c e => by cases e)
      · rw [I.len]
        split <;> omega
      cases e
      refine k_ne hd hN5.x (evb_i hN5.x (ev_var rfl)) rfl rfl fun H6 e6 => ?_
      rw [SeqAt.eqv_refl _ (SeqAt.canLay_of_shaped rfl)]
      exact ⟨M5, B5, _, _, rfl, hN5.ex e6, I.put hi hg0, xb.trans f5.xd⟩
  rintro σ3 H3 ⟨M3, B3, st, o3, rfl, hN3, I, xb3⟩
  have x3 := hN3.x
  have perm := row_full I.G.nd (fun n hn => by have := I.G.lt n hn; rw [I.af] at this; exact this) I.len
  dsimp only
  refine s_asgB (K := K) (evb_q (fun _ _ _ => rfl) (ev_var rfl) hN3 I.G (ebs_nil x3) ⟨rfl, rfl⟩) fun v4 H4 B4 g4 d4 => ?_
  have hN4 := hN3.gr g4
  have D2 := dp_ex (xb3.trans g4.xd) _ _ d2
  clear hN3 hN2
  dsimp only
  refine s_asg ev_c fun H5 e5 => ?_
  have hN5 := hN4.ex e5
  dsimp only
  refine s_forN (K := K) (H0 := H5) (n := 2) (eds_cons evd_int eds_nil) (Ex.refl _) (by decide) (fun i σ' H' => ∃ M' B' o6, σ' = [some (.ref a), some (.ref nb), some v2, o3, some v4, some (.int (i : Int)), o6, none, none, none] ∧ NB K W M' B' H' nb st ∧ Ex B4 B') (fun H6 e6 => ⟨M3, B4, none, rfl, hN5.ex e6, Ex.refl _⟩) ?_ ?_
  · rintro i σ' H' hi ⟨M', B', o6, rfl, hN', xb⟩
    have xB := hN'.x
    dsimp only
    refine s_ifD (H0 := H') (b := decide (i = 0)) (et_is (et_test (ev_eq (K := K) (evd_var (.int (i : Int))) evd_int rfl rfl)) ?_) (Ex.refl _) (fun hb H4 e4 => ?_) fun hb H4 e4 => ?_
    · show ((i : Int) == 0) = _
      rw [Bool.eq_iff_iff]
      simp
    · have hN4 := hN'.ex e4
      refine s_metD (K := K) (T := W) (st := st) (st' := st) (o := .inr c_Full) (fun _ _ _ => rfl) (ev_var rfl) hN4 I.G (ebs_cons (evb_i hN4.x ev_c) (ebs_cons (evb_v hN4.x (ev_var rfl) (dp_ex xb _ _ D2)) (ebs_nil hN4.x))) ⟨_, _, rfl, ok_src _ hg0, .inr (.inr (.inl ⟨by rw [I.len]; rfl, isSource_enc _ hg0, I.len, rfl, rfl⟩))⟩ (fun d e => by cases e) fun c e H5 B5 M5 f5 hN5 => ?_
      cases e
      refine ⟨true, e_Full_Full, fun _ b hb => ?_, fun z => nomatch z⟩
      refine s_aug rfl ev_c fun H6 e6 => ?_
      exact ⟨M5, B5, _, rfl, hN5.ex e6, xb.trans f5.xd⟩
    · have hN4 := hN'.ex e4
      refine s_metD (K := K) (T := W) (st := st) (st' := st) (o := .inr c_Full) (fun _ _ _ => rfl) (ev_var rfl) hN4 I.G (ebs_cons (evb_i hN4.x ev_c) (ebs_cons (evb_i hN4.x ev_c) (ebs_nil hN4.x))) ⟨_, _, rfl, .inr ⟨3, I.all (by decide), rfl, .inr ⟨0, rfl, Nat.zero_le _, .inl ⟨I.len, rfl, rfl⟩⟩⟩⟩ (fun d e => by cases e) fun c e H5 B5 M5 f5 hN5 => ?_
      cases e
      refine ⟨true, e_Full_Full, fun _ b hb => ?_, fun z => nomatch z⟩
      refine s_aug rfl ev_c fun H6 e6 => ?_
      exact ⟨M5, B5, _, rfl, hN5.ex e6, xb.trans f5.xd⟩
  rintro σ6 H6 ⟨M6, B6, o6, rfl, hN6, xb6⟩
  clear hN4 hN5
  have x6 := hN6.x
  have D4 := dp_ex xb6 _ _ d4
  replace D2 := dp_ex xb6 _ _ D2
  have nums : ∀ {M' B' H' σ'} {st' : NbS}, σ'[1]? = some (some (V.ref nb)) → NB K W M' B' H' nb st' → NbG st' → EvD K (tMet W.N "numbers" (spNq K W R_numbers) (fun _ => E0) (tVar 1) tNil) σ' H' (.list (st'.row.map fun n : Nat => PyData.int (n : Int))) := fun h1 hN hG => EvB.toD (EvB.wide (evb_q (fun _ _ _ => rfl) (ev_var h1) hN hG (ebs_nil hN.x) ⟨rfl, rfl⟩) hN.x (Ex.refl _))
  refine s_skip (H0 := H6) (et_is (et_or (a := false) (et_is (et_test (ev_ne (K := K) (evd_var (.int 2)) evd_int rfl rfl)) rfl) fun _ => et_or (a := false) (b := false) (et_is (et_test (ev_ne (K := K) (nums rfl hN6 I.G) (evd_var (dp_ex x6 _ _ D4)) (shN _) (shN _))) ?_) fun _ => et_is (et_test (ev_ne (K := K) (evd_sortL (ns := st.row.map fun n : Nat => (n : Int)) (evd_is (evd_var (dp_ex x6 _ _ D4)) (by rw [List.map_map]; rfl)) (by rw [List.length_map, I.len]; decide)) (evd_lstRg (n := 30) (by decide) evd_int) ?_ (shN _))) ?_) rfl) (Ex.refl _) fun H7 e7 => ?_
  · rw [SeqAt.eqv_refl _ (SeqAt.canLay_of_shaped (shN _))] <;> rfl
  · rw [sort_perm perm, List.map_map]
    exact shN _
  · rw [sort_perm perm, List.map_map]
    have := SeqAt.eqv_refl _ (SeqAt.canLay_of_shaped (shN (List.range 30)))
    show (!PyData.eqv (.list ((List.range 30).map fun n : Nat => PyData.int (n : Int))) _) = false
    rw [this] <;> rfl
  obtain ⟨f0, tl, hrow⟩ : ∃ f0 tl, st.row = f0 :: tl := by
    cases h : st.row with
    | nil => have := I.len; rw [h] at this; cases this
    | cons f0 tl => exact ⟨f0, tl, rfl⟩
  have hf0 : f0 ∈ st.row := by rw [hrow]; exact List.mem_cons_self ..
  have hN7 := hN6.ex e7
  have x7 := hN7.x
  clear hN6
  dsimp only
  refine s_asg (ev_int (K := K) (i := (f0 : Int)) (evd_ixL (evd_var (dp_ex x7 _ _ D4)) evd_int (by rw [hrow]; exact atI_0 _ _))) fun H8 e8 => ?_
  have hN8 := hN7.ex e8
  clear hN7
  dsimp only
  refine s_metD (K := K) (T := W) (st := st) (st' := dropS st f0) (o := .inl .none) (fun _ _ _ => rfl) (ev_var rfl) hN8 I.G (ebs_cons (evb_i hN8.x (ev_var rfl)) (ebs_nil hN8.x)) ⟨_, rfl, .inr ⟨f0, hf0, rfl, rfl, rfl⟩⟩ (fun d e v H9 B9 M9 f9 hN9 _ => ?_) fun c e => by cases e
  clear hN8
  have G9 := I.G.drop f0
  have nd := I.G.nd
  rw [hrow] at nd
  have row9 : (dropS st f0).row = tl := by
    show st.row.erase f0 = tl
    rw [hrow, List.erase_cons_head]
  have len9 : tl.length = 29 := by
    have := I.len
    rw [hrow, List.length_cons] at this
    omega
  have af9 : (dropS st f0).after = 30 := I.af
  have x9 := hN9.x
  replace D2 := dp_ex f9.xd _ _ D2
  replace D4 := dp_ex f9.xd _ _ D4
  dsimp only
  have hg2 := rows2_good hm8
  refine s_or1 (tt_op (t_met (K := K) (T := W) (st := dropS st f0) (st' := putS (dropS st f0) 29 (rowsS many ++ (rowsS many).take (8 - many))) (o := .inl (.int ((30 : Nat) : Int))) (fun _ _ _ => rfl) (ev_var rfl) hN9 G9 (ebs_cons (evb_i x9 ev_c) (ebs_cons (d := encS (rowsS many ++ (rowsS many).take (8 - many))) (EvD.toB (evd_is (evd_addT (evd_var D2) (evd_slT (evd_var D2) eo_none (eo_some (ev_is (ev_I0 (K := K) (i := 8) evd_int (evd_i (ev_lenT (evd_var D2)))) (congrArg V.int (?_ : (8 : Int) - (((rowsS many).map Rw.enc).length : Int) = ((8 - many : Nat) : Int)))))) ?_) ?_) x9) (ebs_nil x9))) ⟨_, _, rfl, ok_src _ hg2, .inr (.inr (.inr ⟨29, _, rfl, by rw [row9, len9]; decide, rfl, hg2, by rw [row9, len9]; decide, by rw [af9], rfl⟩))⟩ (fun d e v H10 B10 M10 f10 hN10 hd => ?_) fun c e => by cases e))
  · rw [List.length_map, rowsS_len]
    omega
  · have h3 := cutD_len ((rowsS many).map Rw.enc) none (some ((8 - many : Nat) : Int))
    rw [List.length_map, rowsS_len] at *
    omega
  · rw [cut_upto, ← List.map_take]
    exact enc_app _ _
  cases e
  have x10 := hN10.x
  have G10 := G9.put (i := 29) hg2 (by rw [row9, len9]; decide) (by rw [af9]; decide)
  have row10 : (putS (dropS st f0) 29 (rowsS many ++ (rowsS many).take (8 - many))).row = tl ++ [30] := by
    show (dropS st f0).row.take 29 ++ [(dropS st f0).after] ++ (dropS st f0).row.drop 29 = _
    rw [row9, af9, List.take_of_length_le (by omega), List.drop_eq_nil_of_le (by omega), List.append_nil]
  refine k_ne hd x10 (evb_i x10 ev_c) rfl rfl fun H11 e11 => ?_
  rw [show PyData.eqv (.int ((30 : Nat) : Int)) (.int 30) = true from rfl]
  have hN11 := hN10.ex e11
  generalize hst2 : putS (dropS st f0) 29 (rowsS many ++ (rowsS many).take (8 - many)) = st2 at *
  have x11 := hN11.x
  replace D4 := dp_ex (f10.xd.trans x11) _ _ D4
  rw [if_neg (by decide)]
  have D4' : Dt K H11 v4 (.list ((f0 :: tl).map fun n : Nat => PyData.int (n : Int))) := by rw [← hrow]; exact D4
  have sum2 : cutD ((f0 :: tl).map fun n : Nat => PyData.int (n : Int)) (some 1) none ++ [PyData.int 30] = (tl ++ [30]).map fun n : Nat => PyData.int (n : Int) := by
    rw [List.map_cons, cut_tail, List.map_append]
    rfl
  refine et_test (ev_ne (K := K) (nums rfl hN11 G10) (evd_is (evd_addL (evd_slL (evd_var D4') (eo_some ev_c) eo_none) (evd_lst (eds_cons evd_int eds_nil) (by simp)) ?_) (congrArg PyData.list sum2)) (shN _) (shN _)) H11 (Ex.refl _) _ fun H12 e12 => ?_
  · have := cutD_len ((f0 :: tl).map fun n : Nat => PyData.int (n : Int)) (some 1) none
    rw [List.length_map, List.length_cons, len9] at this
    show (LC.cutD ((f0 :: tl).map fun n : Nat => PyData.int (n : Int)) (some 1) none).length + 1 ≤ 100000
    omega
  rw [row10, eqv_self (shN _), if_neg (by decide)]
  have hN12 := hN11.ex e12
  have x12 := hN12.x
  clear hN11
  obtain ⟨t0, x, htl⟩ : ∃ t0 x, tl = t0 ++ [x] := by
    rcases List.eq_nil_or_concat tl with h | ⟨t0, x, h⟩
    · rw [h] at len9; cases len9
    · exact ⟨t0, x, by rw [h, List.concat_eq_append]⟩
  have row10' : st2.row = t0 ++ [x, 30] := by rw [row10, htl, List.append_assoc] <;> rfl
  have lt0 : t0.length = 28 := by
    rw [htl, List.length_append, List.length_singleton] at len9
    omega
  have hx : x ∈ st2.row := by rw [row10']; simp
  have h30 : 30 ∈ st2.row := by rw [row10']; simp
  dsimp only
  refine s_asg (ev_int (K := K) (i := (x : Int)) (evd_ixL (i := -2) (nums rfl hN12 G10) (evd_i (ev_un (x := .int 2) ev_c ru_neg)) (by rw [row10', List.map_append]; exact atI_m2 _ _ _))) fun H13 e13 => ?_
  have hN13 := hN12.ex e13
  clear hN12
  have srcE : ∀ {M' B' H' σ' te} {st' : NbS} {n : Nat}, σ'[1]? = some (some (V.ref nb)) → Ev te σ' H' (.int (n : Int)) → NB K W M' B' H' nb st' → NbG st' → n ∈ st'.row → EvD K (tMet W.N "source" (spNq K W (R_source c_NoCell)) (fun _ => E0) (tVar 1) (tCons te tNil)) σ' H' (encS (st'.cell n).src) := fun h1 h2 hN hG hn => EvB.toD (EvB.wide (evb_q (fun _ _ _ => rfl) (ev_var h1) hN hG (ebs_cons (evb_i hN.x h2) (ebs_nil hN.x)) ⟨_, rfl, .inr ⟨_, hn, rfl, rfl⟩⟩) hN.x (Ex.refl _))
  dsimp only
  refine s_asg (ev_is (ev_int (K := K) (ev_addI (evd_i (ev_lenT (srcE rfl (ev_var rfl) hN13 G10 hx))) (evd_i (ev_lenT (srcE (n := 30) rfl ev_c hN13 G10 h30))))) (congrArg V.int (?_ : _ = (((st2.cell x).src.length + (st2.cell 30).src.length : Nat) : Int)))) fun H14 e14 => ?_
  · rw [List.length_map, List.length_map]
    omega
  have hN14 := hN13.ex e14
  clear hN13
  dsimp only
  refine s_asg ev_c fun H15 e15 => ?_
  have hN15 := hN14.ex e15
  clear hN14
  have hf30 : f0 < 30 := by have := I.G.lt f0 hf0; rw [I.af] at this; exact this
  have nin : f0 ∉ tl := (List.nodup_cons.mp nd).1
  have cx2 : st2.cell x = st.cell x := by
    rw [← hst2]
    refine if_neg fun z => ?_
    have z : x = 30 := z.trans af9
    have h := G10.nd
    rw [row10', z, List.nodup_append] at h
    simp at h
  have c302 : (st2.cell 30).struck = false := by
    rw [← hst2]
    show (if 30 = (dropS st f0).after then newCell _ else _).struck = false
    rw [if_pos af9.symm] <;> rfl
  have hxs : x ∈ st.row := by rw [hrow, htl]; simp
  have px := I.pl x hxs
  have gx := G10.good x hx
  have g30 := G10.good 30 h30
  dsimp only
  refine s_seqP (fun σ' H' => ∃ M' B' stf, ∃ c : Nat, σ' = [some (.ref a), some (.ref nb), some v2, o3, some v4, some (.int (c : Int)), o6, some (.int (f0 : Int)), some (.int (x : Int)), some (.int (((st2.cell x).src.length + (st2.cell 30).src.length : Nat) : Int))] ∧ NB K W M' B' H' nb stf ∧ NbG stf ∧ c = (if 8 < (st2.cell x).src.length + (st2.cell 30).src.length then 1 else 0) ∧ stf.row.length = 29 + c ∧ f0 ∉ stf.row) ?fin fun fin => ?_
  case fin =>
    rintro σ' H' ⟨M', B', stf, c, rfl, hN', G', hc, hlen, hf⟩
    refine s_skip (H0 := H') (et_is (et_test (ev_ne (K := K) (evd_var (.int (c : Int))) (evd_i (ev_intB (ev_I0 (K := K) (evd_var (.int _)) evd_int))) rfl rfl)) ?_) (Ex.refl _) fun H16 e16 => ?_
    · rw [hc]
      by_cases h : 8 < (st2.cell x).src.length + (st2.cell 30).src.length
      · rw [if_pos h, if_pos (decide_eq_true (by omega))]
        rfl
      · rw [if_neg h, if_neg (by simp; omega)]
        rfl
    have hN16 := hN'.ex e16
    dsimp only
    refine s_ret (ev_is (ev_andV (a := true) (b := true) (ev_is (ev_eq (K := K) (evd_i (ev_lenL (nums rfl hN16 G'))) (ev_addI evd_int (evd_var (.int (c : Int)))) rfl rfl) ?_) fun _ => ev_is (ev_inL (neg := true) (evd_var (.int (f0 : Int))) (nums rfl hN16 G') rfl ?_) ?_) rfl) fun H19 e19 => k H19
    · rw [List.length_map, hlen]
      show V.bl ((((29 + c : Nat) : Int)) == 29 + (c : Int)) = .bl true
      congr 1
      simp
    · rw [List.all_map]
      simp [flatD, Function.comp_def]
    · congr 1
      show (!inD _ _) = true
      unfold inD
      rw [List.any_map, Bool.not_eq_true', List.any_eq_false]
      intro n hn
      show ¬ ((n : Int) == (f0 : Int)) = true
      simp
      exact fun z => hf (by have z : n = f0 := by omega
                            rw [← z]; exact hn)
  by_cases h8 : 8 < (st2.cell x).src.length + (st2.cell 30).src.length
  · refine s_metD (K := K) (T := W) (st := st2) (st' := st2) (o := .inr c_BadSource) (fun _ _ _ => rfl) (ev_var rfl) hN15 G10 (ebs_cons (evb_i hN15.x (ev_var rfl)) (ebs_cons (evb_i hN15.x ev_c) (ebs_nil hN15.x))) ⟨_, _, rfl, .inr (.inr ⟨x, hx, 30, h30, rfl, rfl, .inr ⟨?_, ?_, .inl ⟨h8, rfl, rfl⟩⟩⟩)⟩ (fun d e => by cases e) fun c e H5 B5 M5 f5 hN5 => ?_
    · unfold nextOf
      rw [row10']
      exact next_end (row10' ▸ G10.nd)
    · rw [cx2, c302, px.1]
    cases e
    refine ⟨true, e_BadSource_BadSource, fun _ b hb => ?_, fun z => nomatch z⟩
    refine s_asg ev_c fun H6 e6 => ?_
    refine fin _ _ ⟨M5, B5, st2, 1, rfl, hN5.ex e6, G10, (if_pos h8).symm, ?_, ?_⟩
    · rw [row10', List.length_append, lt0] <;> rfl
    · rw [row10]
      simp
      exact ⟨nin, by omega⟩
  · have G11 : NbG (LC.setS st2 x ⟨(st2.cell x).src ++ (st2.cell 30).src, (st2.cell x).count + 1, (st2.cell x).struck, (st2.cell x).recd⟩) := G10.setS (goodS_app gx g30 (by omega)) (by show (st2.cell x).count + 1 ≤ 5000; rw [cx2]; omega)
    have rowj : (joinS st2 x 30).row = tl := by
      show st2.row.erase 30 = tl
      rw [row10]
      have h := G10.nd
      rw [row10, List.nodup_append] at h
      rw [List.erase_append_right _ (fun z => h.2.2 30 z 30 (by simp) rfl)]
      simp
    refine s_metD (K := K) (T := W) (st := st2) (st' := joinS st2 x 30) (o := .inl .none) (fun _ _ _ => rfl) (ev_var rfl) hN15 G10 (ebs_cons (evb_i hN15.x (ev_var rfl)) (ebs_cons (evb_i hN15.x ev_c) (ebs_nil hN15.x))) ⟨_, _, rfl, .inr (.inr ⟨x, hx, 30, h30, rfl, rfl, .inr ⟨?_, ?_, .inr ⟨by omega, by rw [cx2]; omega, rfl, rfl⟩⟩⟩)⟩ (fun d e v H5 B5 M5 f5 hN5 _ => ?_) fun c e => by cases e
    · unfold nextOf
      rw [row10']
      exact next_end (row10' ▸ G10.nd)
    · rw [cx2, c302, px.1]
    exact fin _ _ ⟨M5, B5, joinS st2 x 30, 0, rfl, hN5, G11.drop 30, (if_neg h8).symm, by rw [rowj, len9], by rw [rowj]; exact nin⟩
end
theorem facts {P : Program} {w : World} {K : PySem.W.Frag} {h : Heap} {mg : Str → Option Value} {f : Addr} (X : K.In h) (G : h.Ns mainGlobals mg) (hfa : mg ("law" : Str) = some (.ref f)) (c0 : He.SaysX faL fnL [] [] exB w h K) :
    ∃ fd : FuncData, (∀ (s : Shared) (v : Value), BindsTo s fd ⟨[v], []⟩ [("script", v)]) ∧ ∀ base : Heap, K.In base → base.Ns mainGlobals mg → FnOk P w K mg base CX0 30 f fd ["script"] (LC.spLaw K) := by
  have c : He.SaysD faL fnL K := c0.t.d
  have cm : exB K = true := c0.more
  have T : LC.Tx mg := by
    refine ⟨fun {x} hx => ?_⟩
    simp only [LC.freeN, List.mem_cons, List.not_mem_nil, or_false] at hx
    rcases hx with rfl | rfl | rfl | rfl | rfl | rfl | rfl | rfl | rfl | rfl | rfl | rfl | rfl | rfl | rfl
    · exact He.free_ok X G (c.fact 64 (f := .free "len") rfl)
    · exact He.free_ok X G (c.fact 65 (f := .free "isinstance") rfl)
    · exact He.free_ok X G (c.fact 66 (f := .free "range") rfl)
    · exact He.free_ok X G (c.fact 67 (f := .free "tuple") rfl)
    · exact He.free_ok X G (c.fact 68 (f := .free "sorted") rfl)
    · exact He.free_ok X G (c.fact 69 (f := .free "set") rfl)
    · exact He.free_ok X G (c.fact 70 (f := .free "int") rfl)
    · exact He.free_ok X G (c.fact 71 (f := .free "str") rfl)
    · exact He.free_ok X G (c.fact 72 (f := .free "bool") rfl)
    · exact He.free_ok X G (c.fact 73 (f := .free "list") rfl)
    · exact He.free_ok X G (c.fact 74 (f := .free "min") rfl)
    · exact He.free_ok X G (c.fact 75 (f := .free "zip") rfl)
    · exact He.free_ok X G (c.fact 76 (f := .free "enumerate") rfl)
    · exact He.free_ok X G (c.fact 77 (f := .free "dict") rfl)
    · exact He.free_ok X G (c.fact 78 (f := .free "ValueError") rfl)
  have m___name__ := He.str_ok X G (c.fact 56 (f := .str "__name__" "law_leancells_k19_full") rfl)
  have m_SMALL := He.str_ok X G (c.fact 57 (f := .str "SMALL" "abcdefghijklmnopqrstuvwxyz") rfl)
  have m_ROUND := He.int_ok X G (c.fact 58 (f := .int "ROUND" 10000) rfl)
  have m_MOST_ROWS := He.int_ok X G (c.fact 59 (f := .int "MOST_ROWS" 8) rfl)
  have m_MOST_DEEP := He.int_ok X G (c.fact 60 (f := .int "MOST_DEEP" 6) rfl)
  have m_WORDS := He.glo_ok X G (c.fact 61 (f := .glo "WORDS") rfl)
  have m_BARRED := He.glo_ok X G (c.fact 62 (f := .glo "BARRED") rfl)
  have m_MOST_CELLS := He.int_ok X G (c.fact 63 (f := .int "MOST_CELLS" 30) rfl)
  have t_WORDS : He.tupB K "WORDS" (LC.wordsS.map He.Dv.str) = true := by
    have cm := cm
    unfold exB at cm
    simp only [Bool.and_eq_true] at cm
    exact cm.1.1
  have b_WORDS := LC.tup_strs LC.wordsS t_WORDS
  have t_BARRED : He.tupB K "BARRED" (LC.barredS.map He.Dv.str) = true := by
    have cm := cm
    unfold exB at cm
    simp only [Bool.and_eq_true] at cm
    exact cm.1.2
  have b_BARRED := LC.tup_strs LC.barredS t_BARRED
  obtain ⟨xq_LeanError, xk_LeanError, xb_LeanError, xt_LeanError⟩ := He.exc_ok (c.fact 43 (f := .exc "LeanError") rfl)
  have x_LeanError : LC.ExcF K mg "LeanError" (He.ga K "LeanError") := ⟨xq_LeanError, He.glo_ok X G (c.fact 42 (f := .glo "LeanError") rfl), xk_LeanError, xb_LeanError, xt_LeanError⟩
  obtain ⟨xq_BadSource, xk_BadSource, xb_BadSource, xt_BadSource⟩ := He.exc_ok (c.fact 45 (f := .exc "BadSource") rfl)
  have x_BadSource : LC.ExcF K mg "BadSource" (He.ga K "BadSource") := ⟨xq_BadSource, He.glo_ok X G (c.fact 44 (f := .glo "BadSource") rfl), xk_BadSource, xb_BadSource, xt_BadSource⟩
  obtain ⟨xq_BadNumber, xk_BadNumber, xb_BadNumber, xt_BadNumber⟩ := He.exc_ok (c.fact 47 (f := .exc "BadNumber") rfl)
  have x_BadNumber : LC.ExcF K mg "BadNumber" (He.ga K "BadNumber") := ⟨xq_BadNumber, He.glo_ok X G (c.fact 46 (f := .glo "BadNumber") rfl), xk_BadNumber, xb_BadNumber, xt_BadNumber⟩
  obtain ⟨xq_NoCell, xk_NoCell, xb_NoCell, xt_NoCell⟩ := He.exc_ok (c.fact 49 (f := .exc "NoCell") rfl)
  have x_NoCell : LC.ExcF K mg "NoCell" (He.ga K "NoCell") := ⟨xq_NoCell, He.glo_ok X G (c.fact 48 (f := .glo "NoCell") rfl), xk_NoCell, xb_NoCell, xt_NoCell⟩
  obtain ⟨xq_Struck, xk_Struck, xb_Struck, xt_Struck⟩ := He.exc_ok (c.fact 51 (f := .exc "Struck") rfl)
  have x_Struck : LC.ExcF K mg "Struck" (He.ga K "Struck") := ⟨xq_Struck, He.glo_ok X G (c.fact 50 (f := .glo "Struck") rfl), xk_Struck, xb_Struck, xt_Struck⟩
  obtain ⟨xq_NotNext, xk_NotNext, xb_NotNext, xt_NotNext⟩ := He.exc_ok (c.fact 53 (f := .exc "NotNext") rfl)
  have x_NotNext : LC.ExcF K mg "NotNext" (He.ga K "NotNext") := ⟨xq_NotNext, He.glo_ok X G (c.fact 52 (f := .glo "NotNext") rfl), xk_NotNext, xb_NotNext, xt_NotNext⟩
  obtain ⟨xq_Full, xk_Full, xb_Full, xt_Full⟩ := He.exc_ok (c.fact 55 (f := .exc "Full") rfl)
  have x_Full : LC.ExcF K mg "Full" (He.ga K "Full") := ⟨xq_Full, He.glo_ok X G (c.fact 54 (f := .glo "Full") rfl), xk_Full, xb_Full, xt_Full⟩
  have U : LC.NbT K ⟨He.ga K "Notebook", He.ga K "Cell", He.ga K "Record"⟩ := by
    refine ⟨He.cls_ok (c.fact 28 (f := .cls "Notebook") rfl), He.cls_ok (c.fact 22 (f := .cls "Cell") rfl), He.cls_ok (c.fact 15 (f := .cls "Record") rfl), fun {f} hf => ?_, fun {f} hf => ?_, fun {f} hf => ?_⟩
    · simp only [List.mem_cons, List.not_mem_nil, or_false] at hf
      rcases hf with rfl | rfl | rfl
      · exact He.noat_ok (c.fact 29 (f := .noat "Notebook" "cells") rfl)
      · exact He.noat_ok (c.fact 30 (f := .noat "Notebook" "row") rfl)
      · exact He.noat_ok (c.fact 31 (f := .noat "Notebook" "after") rfl)
    · simp only [List.mem_cons, List.not_mem_nil, or_false] at hf
      rcases hf with rfl | rfl | rfl | rfl
      · exact He.noat_ok (c.fact 23 (f := .noat "Cell" "lines") rfl)
      · exact He.noat_ok (c.fact 24 (f := .noat "Cell" "count") rfl)
      · exact He.noat_ok (c.fact 25 (f := .noat "Cell" "struck") rfl)
      · exact He.noat_ok (c.fact 26 (f := .noat "Cell" "record") rfl)
    · simp only [List.mem_cons, List.not_mem_nil, or_false] at hf
      rcases hf with rfl | rfl | rfl | rfl | rfl
      · exact He.noat_ok (c.fact 16 (f := .noat "Record" "lines") rfl)
      · exact He.noat_ok (c.fact 17 (f := .noat "Record" "asked") rfl)
      · exact He.noat_ok (c.fact 18 (f := .noat "Record" "shown") rfl)
      · exact He.noat_ok (c.fact 19 (f := .noat "Record" "sets") rfl)
      · exact He.noat_ok (c.fact 20 (f := .noat "Record" "why") rfl)
  obtain ⟨fd_is_within, F_is_within⟩ := c.def_ 0 (d := d_is_within) rfl
  have g_is_within := He.glo_ok X G (c.fact 1 (f := .glo "is_within") rfl)
  obtain ⟨fd_is_name, F_is_name⟩ := c.def_ 1 (d := d_is_name) rfl
  have g_is_name := He.glo_ok X G (c.fact 2 (f := .glo "is_name") rfl)
  obtain ⟨fd_is_sum, F_is_sum⟩ := c.def_ 2 (d := d_is_sum) rfl
  have g_is_sum := He.glo_ok X G (c.fact 3 (f := .glo "is_sum") rfl)
  obtain ⟨fd_is_row, F_is_row⟩ := c.def_ 3 (d := d_is_row) rfl
  have g_is_row := He.glo_ok X G (c.fact 4 (f := .glo "is_row") rfl)
  obtain ⟨fd_is_source, F_is_source⟩ := c.def_ 4 (d := d_is_source) rfl
  have g_is_source := He.glo_ok X G (c.fact 5 (f := .glo "is_source") rfl)
  obtain ⟨fd_look, F_look⟩ := c.def_ 5 (d := d_look) rfl
  have g_look := He.glo_ok X G (c.fact 6 (f := .glo "look") rfl)
  obtain ⟨fd_Cell_init, F_Cell_init⟩ := c.def_ 6 (d := d_Cell_init) rfl
  have M_Cell_init := He.mkr_ok (c.fact 32 (f := .mkr "Cell") rfl)
  have g_Cell_init := He.glo_ok X G (c.fact 21 (f := .glo "Cell") rfl)
  obtain ⟨fd_Notebook_init, F_Notebook_init⟩ := c.def_ 7 (d := d_Notebook_init) rfl
  have M_Notebook_init := He.mkr_ok (c.fact 33 (f := .mkr "Notebook") rfl)
  have g_Notebook_init := He.glo_ok X G (c.fact 27 (f := .glo "Notebook") rfl)
  obtain ⟨fd_Notebook_look_cell, F_Notebook_look_cell⟩ := c.def_ 8 (d := d_Notebook_look_cell) rfl
  have g_Notebook_look_cell := He.meth_ok (c.fact 34 (f := .meth "Notebook" "look_cell") rfl)
  obtain ⟨fd_Notebook_look_place, F_Notebook_look_place⟩ := c.def_ 9 (d := d_Notebook_look_place) rfl
  have g_Notebook_look_place := He.meth_ok (c.fact 35 (f := .meth "Notebook" "look_place") rfl)
  obtain ⟨fd_Notebook_put, F_Notebook_put⟩ := c.def_ 10 (d := d_Notebook_put) rfl
  have g_Notebook_put := He.meth_ok (c.fact 36 (f := .meth "Notebook" "put") rfl)
  obtain ⟨fd_Notebook_drop, F_Notebook_drop⟩ := c.def_ 11 (d := d_Notebook_drop) rfl
  have g_Notebook_drop := He.meth_ok (c.fact 37 (f := .meth "Notebook" "drop") rfl)
  obtain ⟨fd_Notebook_cut, F_Notebook_cut⟩ := c.def_ 12 (d := d_Notebook_cut) rfl
  have g_Notebook_cut := He.meth_ok (c.fact 38 (f := .meth "Notebook" "cut") rfl)
  obtain ⟨fd_Notebook_join, F_Notebook_join⟩ := c.def_ 13 (d := d_Notebook_join) rfl
  have g_Notebook_join := He.meth_ok (c.fact 39 (f := .meth "Notebook" "join") rfl)
  obtain ⟨fd_Notebook_numbers, F_Notebook_numbers⟩ := c.def_ 14 (d := d_Notebook_numbers) rfl
  have g_Notebook_numbers := He.meth_ok (c.fact 40 (f := .meth "Notebook" "numbers") rfl)
  obtain ⟨fd_Notebook_source, F_Notebook_source⟩ := c.def_ 15 (d := d_Notebook_source) rfl
  have g_Notebook_source := He.meth_ok (c.fact 41 (f := .meth "Notebook" "source") rfl)
  obtain ⟨fd_law_cell, F_law_cell⟩ := c.def_ 16 (d := d_law_cell) rfl
  have g_law_cell := He.glo_ok X G (c.fact 11 (f := .glo "_law_cell") rfl)
  obtain ⟨fd_law_mix, F_law_mix⟩ := c.def_ 17 (d := d_law_mix) rfl
  have g_law_mix := He.glo_ok X G (c.fact 12 (f := .glo "_law_mix") rfl)
  obtain ⟨fd_law, F_law⟩ := c.def_ 18 (d := d_law) rfl
  have g_law := He.glo_ok X G (c.fact 13 (f := .glo "law") rfl)
  have e := hfa.symm.trans g_law
  cases e
  have b := FunD.bindsA (ps := ["script"]) F_law fun _ _ _ _ _ _ us hl => match us, hl with | [_], _ => rfl
  refine ⟨fd_law, fun s v => b s [v] rfl, fun base _ _ => ?_⟩
  have h_is_within := ok_is_within (P := P) (w := w) (base := base)  F_is_within g_is_within T 
  have h_is_name := ok_is_name (P := P) (w := w) (base := base)  F_is_name g_is_name T (m_SMALL := m_SMALL) (m_BARRED := m_BARRED) (b_BARRED := b_BARRED)
  have h_is_sum := ok_is_sum (P := P) (w := w) (base := base)  F_is_sum g_is_sum T (m_WORDS := m_WORDS) (b_WORDS := b_WORDS) (h_is_within := h_is_within) (m_ROUND := m_ROUND) (h_is_name := h_is_name)
  have h_is_row := ok_is_row (P := P) (w := w) (base := base)  F_is_row g_is_row T (h_is_sum := h_is_sum) (m_MOST_DEEP := m_MOST_DEEP) (h_is_name := h_is_name)
  have h_is_source := ok_is_source (P := P) (w := w) (base := base)  F_is_source g_is_source T (h_is_row := h_is_row) (m_MOST_ROWS := m_MOST_ROWS)
  have h_look := ok_look (P := P) (w := w) (base := base) (c_BadSource := He.ga K "BadSource") F_look g_look T (h_is_source := h_is_source) (x_BadSource := x_BadSource)
  have h_Cell_init := ok_Cell_init (P := P) (w := w) (base := base) (mg := mg)  (U := U) (F := F_Cell_init) (M := M_Cell_init) (g := g_Cell_init) (T := T)
  have h_Notebook_init := ok_Notebook_init (P := P) (w := w) (base := base) (mg := mg)  (U := U) (F := F_Notebook_init) (M := M_Notebook_init) (g := g_Notebook_init) (T := T)
  have h_Notebook_look_cell := ok_Notebook_look_cell (P := P) (w := w) (base := base) (mg := mg) (c_NoCell := He.ga K "NoCell") (U := U) (h_is_within := h_is_within) (x_NoCell := x_NoCell) (F := F_Notebook_look_cell) (g := g_Notebook_look_cell) (T := T)
  have h_Notebook_look_place := ok_Notebook_look_place (P := P) (w := w) (base := base) (mg := mg) (c_BadNumber := He.ga K "BadNumber") (U := U) (h_is_within := h_is_within) (x_BadNumber := x_BadNumber) (F := F_Notebook_look_place) (g := g_Notebook_look_place) (T := T)
  have h_Notebook_put := ok_Notebook_put (P := P) (w := w) (base := base) (mg := mg) (c_BadNumber := He.ga K "BadNumber") (c_BadSource := He.ga K "BadSource") (c_Full := He.ga K "Full") (U := U) (i_Cell := h_Cell_init) (m_MOST_CELLS := m_MOST_CELLS) (x_Full := x_Full) (h_look := h_look) (h_Notebook_look_place := h_Notebook_look_place) (F := F_Notebook_put) (g := g_Notebook_put) (T := T)
  have h_Notebook_drop := ok_Notebook_drop (P := P) (w := w) (base := base) (mg := mg) (c_NoCell := He.ga K "NoCell") (U := U) (h_Notebook_look_cell := h_Notebook_look_cell) (F := F_Notebook_drop) (g := g_Notebook_drop) (T := T)
  have h_Notebook_cut := ok_Notebook_cut (P := P) (w := w) (base := base) (mg := mg) (c_NoCell := He.ga K "NoCell") (c_BadNumber := He.ga K "BadNumber") (c_Full := He.ga K "Full") (c_BadSource := He.ga K "BadSource") (U := U) (h_Notebook_put := h_Notebook_put) (m_MOST_CELLS := m_MOST_CELLS) (x_Full := x_Full) (h_is_within := h_is_within) (x_BadNumber := x_BadNumber) (h_Notebook_look_cell := h_Notebook_look_cell) (F := F_Notebook_cut) (g := g_Notebook_cut) (T := T)
  have h_Notebook_join := ok_Notebook_join (P := P) (w := w) (base := base) (mg := mg) (c_NoCell := He.ga K "NoCell") (c_NotNext := He.ga K "NotNext") (c_BadSource := He.ga K "BadSource") (U := U) (h_Notebook_drop := h_Notebook_drop) (h_look := h_look) (x_NotNext := x_NotNext) (h_Notebook_look_cell := h_Notebook_look_cell) (F := F_Notebook_join) (g := g_Notebook_join) (T := T)
  have h_Notebook_numbers := ok_Notebook_numbers (P := P) (w := w) (base := base) (mg := mg)  (U := U) (F := F_Notebook_numbers) (g := g_Notebook_numbers) (T := T)
  have h_Notebook_source := ok_Notebook_source (P := P) (w := w) (base := base) (mg := mg) (c_NoCell := He.ga K "NoCell") (U := U) (h_Notebook_look_cell := h_Notebook_look_cell) (F := F_Notebook_source) (g := g_Notebook_source) (T := T)
  have h_law_cell := ok_law_cell (P := P) (w := w) (base := base)  F_law_cell g_law_cell T 
  have h_law_mix := ok_law_mix (P := P) (w := w) (base := base)  F_law_mix g_law_mix T 
  exact (ok_law F_law g_law T (U := U) (h_Notebook_numbers := h_Notebook_numbers) (x_BadSource := x_BadSource) (e_BadSource_BadSource := He.exm_ok (c.fact 80 (f := .exm "BadSource" "BadSource" true) rfl)) (h_Notebook_join := h_Notebook_join) (h_Notebook_source := h_Notebook_source) (h_Notebook_put := h_Notebook_put) (h_Notebook_drop := h_Notebook_drop) (x_Full := x_Full) (e_Full_Full := He.exm_ok (c.fact 79 (f := .exm "Full" "Full" true) rfl)) (h_Notebook_cut := h_Notebook_cut) (h__law_mix := h_law_mix) (h__law_cell := h_law_cell) (i_Notebook := h_Notebook_init)).1
end K19
open PySem PySem.W PySem.Calls PyProof.Rows
theorem PySem.Challenge.cw_leancells_k19_full_holds : PySem.Challenge.rw_leancells_k19_full.Holds := by
  w_on; o_law
  refine HandSHeadRun.head_any (r := OpenLaw.row PySem.Challenge.rw_leancells_k19_full) (q := view (OpenLaw.row PySem.Challenge.rw_leancells_k19_full).prog [36]) (H := K19.hk) (ob := K19.ob) (M := 6000) (loose := K19.looseL) (d := HandSHeadRun.topDef (OpenLaw.row PySem.Challenge.rw_leancells_k19_full).prog 36) (kwd := []) K19.ob_eq
    (by kernel_rfl) (fun s => by kernel_rfl) K19.run (by kernel_rfl) (by kernel_rfl) (by kernel_rfl) (by rfl) (by first | assumption | decide +kernel) (by decide +kernel) ⟨rfl, rfl, rfl, rfl, rfl, by decide +kernel⟩ ?hw ?hc
  case hw => w_witness2
  case hc =>
    refine L2.walk_ofE (l := PySem.Challenge.rw_leancells_k19_full) (n := 63) (k := 30) (x := "script") (CX := L2.CX0) rfl (by decide) (by kernel_rfl) ⟨rfl, by decide, by decide⟩ ?F (fun _ _ _ _ z => z)
    intro w mg fa h Y G hmg0
    obtain ⟨K, KX, c⟩ := Y
    have hmg : mg ("law" : PySem.Str) = some (.ref fa) := by
      have e : (HandSHeadRun.topDef (OpenLaw.row PySem.Challenge.rw_leancells_k19_full).prog 36).name = ("law" : PySem.Str) := by kernel_rfl
      rw [← e]
      exact hmg0
    obtain ⟨fd, hb, hF⟩ := K19.facts (P := (PySem.Challenge.rw_leancells_k19_full).prog) (w := w) KX G hmg c
    exact ⟨K, fd, LC.spLaw K, KX, hb, fun H a ns hl _ hS => ⟨a, ns, rfl, hS, hl, fun _ => rfl⟩, hF⟩
