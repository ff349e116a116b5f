import PyProof.Rows.All
import Wide.All
import OpenK.AllK
import Wide.FinOn
import KE.KStateDown
import Lean
import HandS.Base
import HandS.Call
import HandS.List
import HandS.Comp
import HandS.Ends
import HandS.Dict
import HandS.Iter
import HandS.Text
import HandS.Exc
import HandS.Words
import HandS.WordsList
import HandS.WordsExc
import HandS.WordsDict
import HandS.Defaults
import HandS.More
import HandS.Flow
import HandS.Style
import HandS.IsInst
import HandS.ExcOwn
import HandS.Evl
import HandS.TupAny
import HandS.TupMul
import HandS.Set
import HandS.TupSets
import HandS.SetFor
import HandS.Head0
import HandS.Head1
import HandS.Head2
import HandS.HeadEnd
import HandS.HeadHook1
import HandS.HeadHook2
import HandS.HeadHook3
import HandS.HeadHook4
import HandS.TryOnly
import HandS.Lambda
import HandS.Conv
import HandS.Nested
import HandS.EndTab
import HandS.HeadWalk
import HandS.ExcInit
import HandS.ExcField
import KE.KNestM
import HandS.Walk
import HandS.Deep
import KE.KDictDisplayH
import PySem.Challenge.RW_leancells_k24_whole_not_asked
set_option Elab.async false
set_option linter.all false
set_option maxRecDepth 100000
set_option maxHeartbeats 8000000
namespace LC
open PySem L2 Evl
abbrev Frag := PySem.W.Frag
/-! ### data in the heap: lists of the program's own, tuples of any -/
mutual
inductive Dt (K : Frag) (H : Hp) : V → PyData → Prop
  | non : Dt K H .non .none
  | bl (b : Bool) : Dt K H (.bl b) (.bool b)
  | int (i : Int) : Dt K H (.int i) (.int i)
  | str (x : Str) : Dt K H (.str x) (.str x)
  | lst {a : Addr} {xs : List V} {ds : List PyData} : H a = some (.lst xs) → DtAll K H xs ds → Dt K H (.ref a) (.list ds)
  | tup {a : Addr} {xs : List V} {ds : List PyData} : SqT K H a xs → DtAll K H xs ds → Dt K H (.ref a) (.tuple ds)
inductive DtAll (K : Frag) (H : Hp) : List V → List PyData → Prop
  | nil : DtAll K H [] []
  | cons {v : V} {vs : List V} {d : PyData} {ds : List PyData} : Dt K H v d → DtAll K H vs ds → DtAll K H (v :: vs) (d :: ds)
end
mutual
theorem dt_dp {K : Frag} {H : Hp} : ∀ (d : PyData) (v : V), Dt K H v d → Dp K H v d
  | .none, _, h => by cases h; exact .non
  | .bool b, _, h => by cases h; exact .bl b
  | .int i, _, h => by cases h; exact .int i
  | .str x, _, h => by cases h; exact .str x
  | .list ds, _, h => by
    cases h with
    | lst hs ha => exact .lst (sq_of hs) (dtAll_dp ds _ ha)
  | .tuple ds, _, h => by
    cases h with
    | tup hs ha => exact .tup hs (dtAll_dp ds _ ha)
  | .dict _, _, h => by cases h
theorem dtAll_dp {K : Frag} {H : Hp} : ∀ (ds : List PyData) (vs : List V), DtAll K H vs ds → DpAll K H vs ds
  | [], _, h => by cases h; exact .nil
  | d :: ds, _, h => by
    cases h with
    | cons h1 h2 => exact .cons (dt_dp d _ h1) (dtAll_dp ds _ h2)
end
/-! ### data stay where the heap only grows -/
mutual
theorem dp_ex {K : Frag} {H H' : Hp} (e : Ex H H') : ∀ (d : PyData) (v : V), Dt K H v d → Dt K H' v d
  | .none, _, h => by cases h; exact .non
  | .bool b, _, h => by cases h; exact .bl b
  | .int i, _, h => by cases h; exact .int i
  | .str x, _, h => by cases h; exact .str x
  | .list ds, _, h => by
    cases h with
    | lst hs ha => exact .lst (e _ _ hs) (dpAll_ex e ds _ ha)
  | .tuple ds, _, h => by
    cases h with
    | tup hs ha => exact .tup (ex_t e hs) (dpAll_ex e ds _ ha)
  | .dict _, _, h => by cases h
theorem dpAll_ex {K : Frag} {H H' : Hp} (e : Ex H H') : ∀ (ds : List PyData) (vs : List V), DtAll K H vs ds → DtAll K H' vs ds
  | [], _, h => by cases h; exact .nil
  | d :: ds, _, h => by
    cases h with
    | cons h1 h2 => exact .cons (dp_ex e d _ h1) (dpAll_ex e ds _ h2)
end
section
variable {K : Frag} {H H' : Hp}
theorem dpAll_len : ∀ {vs : List V} {ds : List PyData}, DtAll K H vs ds → vs.length = ds.length
  | _, _, .nil => rfl
  | _, _, .cons _ t => congrArg (· + 1) (dpAll_len t)
theorem dpAll_at : ∀ {vs : List V} {ds : List PyData} {i : Nat} {d : PyData}, DtAll K H vs ds → ds[i]? = some d → ∃ v, vs[i]? = some v ∧ Dt K H v d
  | _, _, _, _, .nil, e => by simp at e
  | _, _, 0, _, .cons h _, e => by simp at e; subst e; exact ⟨_, rfl, h⟩
  | _, _, i + 1, d, .cons _ t, e => by
    obtain ⟨v, h1, h2⟩ := dpAll_at (i := i) (d := d) t (by simpa using e)
    exact ⟨v, by simpa using h1, h2⟩
theorem dpAll_of : ∀ {vs : List V} {ds : List PyData} {i : Nat} {v : V}, DtAll K H vs ds → vs[i]? = some v → ∃ d, ds[i]? = some d ∧ Dt K H v d
  | _, _, _, _, .nil, e => by simp at e
  | _, _, 0, _, .cons h _, e => by simp at e; subst e; exact ⟨_, rfl, h⟩
  | _, _, i + 1, d, .cons _ t, e => by
    obtain ⟨v, h1, h2⟩ := dpAll_of (i := i) t (by simpa using e)
    exact ⟨v, by simpa using h1, h2⟩
theorem dpAll_app : ∀ {vs ws : List V} {ds es : List PyData}, DtAll K H vs ds → DtAll K H ws es → DtAll K H (vs ++ ws) (ds ++ es)
  | _, _, _, _, .nil, h => h
  | _, _, _, _, .cons a t, h => .cons a (dpAll_app t h)
theorem dpAll_drop : ∀ {vs : List V} {ds : List PyData} (n : Nat), DtAll K H vs ds → DtAll K H (vs.drop n) (ds.drop n)
  | _, _, 0, h => h
  | _, _, _ + 1, .nil => .nil
  | _, _, n + 1, .cons _ t => dpAll_drop n t
theorem dpAll_take : ∀ {vs : List V} {ds : List PyData} (n : Nat), DtAll K H vs ds → DtAll K H (vs.take n) (ds.take n)
  | _, _, 0, _ => .nil
  | _, _, _ + 1, .nil => .nil
  | _, _, n + 1, .cons a t => .cons a (dpAll_take n t)
theorem dpAll_one {v : V} {d : PyData} (h : Dt K H v d) : DtAll K H [v] [d] := .cons h .nil
theorem dp_tup {v : V} {ds : List PyData} (h : Dt K H v (.tuple ds)) : ∃ a xs, v = .ref a ∧ SqT K H a xs ∧ DtAll K H xs ds := by
  cases h with
  | tup hs ha => exact ⟨_, _, rfl, hs, ha⟩
theorem dp_lst {v : V} {ds : List PyData} (h : Dt K H v (.list ds)) : ∃ a xs, v = .ref a ∧ H a = some (.lst xs) ∧ DtAll K H xs ds := by
  cases h with
  | lst hs ha => exact ⟨_, _, rfl, hs, ha⟩
theorem dp_int {v : V} {i : Int} (h : Dt K H v (.int i)) : v = .int i := by cases h; rfl
theorem dp_str {v : V} {x : Str} (h : Dt K H v (.str x)) : v = .str x := by cases h; rfl
theorem dp_bool {v : V} {b : Bool} (h : Dt K H v (.bool b)) : v = .bl b := by cases h; rfl
theorem dp_none {v : V} (h : Dt K H v .none) : v = .non := by cases h; rfl
end
/-! ### what evaluates to which data -/
/-- H: where the data at hand lie; H1, H2: the heap ahead and behind; Hd: where the new data lie: among H's and what is new -/
structure Gr (H H1 H2 Hd : Hp) : Prop where
  ex : Ex H1 H2
  xd : Ex H Hd
  d2 : Ex Hd H2
  fr : ∀ a, H a = none → H1 a ≠ none → Hd a = none
theorem Gr.base {H H1 H2 : Hp} (a : Ex H H1) (b : Ex H1 H2) : Gr H H1 H2 H := ⟨b, Ex.refl H, a.trans b, fun _ h _ => h⟩
def join (A B : Hp) : Hp := fun a => match A a with
  | some o => some o
  | none => B a
theorem join_l {A B : Hp} : Ex A (join A B) := fun a o h => by unfold join; rw [h]
theorem join_r {A B C : Hp} (ha : Ex A C) (hb : Ex B C) : Ex B (join A B) := fun a o h => by
  unfold join
  cases q : A a with
  | none => exact h
  | some u =>
    have h1 := ha a u q
    have h2 := hb a o h
    rw [h1] at h2
    exact h2
theorem join_to {A B C : Hp} (ha : Ex A C) (hb : Ex B C) : Ex (join A B) C := fun a o h => by
  unfold join at h
  cases q : A a with
  | none => rw [q] at h; exact hb a o h
  | some u => rw [q] at h; cases h; exact ha a _ q
theorem ne_none {H H' : Hp} {a : Addr} (e : Ex H H') (h : H a ≠ none) : H' a ≠ none := by
  cases q : H a with
  | none => exact absurd q h
  | some o => rw [e a o q]; exact fun z => nomatch z
theorem Gr.join {H H1 H2 H3 A B : Hp} (x : Gr H H1 H2 A) (y : Gr H H2 H3 B) : Gr H H1 H3 (join A B) :=
  ⟨x.ex.trans y.ex, x.xd.trans join_l, join_to (x.d2.trans y.ex) y.d2, fun a h0 h1 => by
    have e1 := x.fr a h0 h1
    have e2 := y.fr a h0 (ne_none x.ex h1)
    unfold LC.join
    rw [e1]
    exact e2⟩
theorem Gr.more {H H1 H2 H3 A : Hp} (x : Gr H H1 H2 A) (e : Ex H2 H3) : Gr H H1 H3 A := ⟨x.ex.trans e, x.xd, x.d2.trans e, x.fr⟩
theorem Gr.after {H H1 H2 H3 A : Hp} (e : Ex H1 H2) (x : Gr H H2 H3 A) : Gr H H1 H3 A := ⟨e.trans x.ex, x.xd, x.d2, fun a h0 h1 => x.fr a h0 (ne_none e h1)⟩
/-- a new object for the data -/
theorem Gr.new {H H1 H2 Hd : Hp} {p : Addr} (o : HO) (x : Gr H H1 H2 Hd) (hp : H2 p = none) : Gr H H1 (upd H2 p o) (upd Hd p o) := by
  have hd : Hd p = none := fresh_back x.d2 hp
  refine ⟨x.ex.trans (Ex.new hp), x.xd.trans (Ex.new hd), fun a u h => ?_, fun a h0 h1 => ?_⟩
  · by_cases e : a = p
    · subst e
      rw [upd_same] at h ⊢
      exact h
    · rw [upd_ne e] at h ⊢
      exact x.d2 a u h
  · have e : a ≠ p := fun z => h1 (by rw [z]; exact fresh_back x.ex hp)
    rw [upd_ne e]
    exact x.fr a h0 h1
/-- what was known in a part is known in the whole -/
theorem Gr.wide {H0 H H1 H2 Hd : Hp} (e : Ex H0 H) (e1 : Ex H H1) (x : Gr H0 H1 H2 Hd) : Gr H H1 H2 (LC.join H Hd) :=
  ⟨x.ex, join_l, join_to (e1.trans x.ex) x.d2, fun a h0 h1 => by
    have q : H0 a = none := fresh_back e h0
    have z := x.fr a q h1
    unfold LC.join
    rw [h0]
    exact z⟩
theorem Gr.wide_r {H0 H H1 H2 Hd : Hp} (e1 : Ex H H1) (x : Gr H0 H1 H2 Hd) : Ex Hd (LC.join H Hd) := join_r (e1.trans x.ex) x.d2
/-- te comes to a value of the data d; the heap only grows -/
def EvD (K : Frag) (te : TE) (σ : L2.St) (H : Hp) (d : PyData) : Prop := ∀ H1, Ex H H1 → ∀ Q : VK, (∀ v H2 Hd, Gr H H1 H2 Hd → Dt K Hd v d → Q v H2) → te σ H1 Q
def EvDs (K : Frag) (ta : TA) (σ : L2.St) (H : Hp) (ds : List PyData) : Prop := ∀ H1, Ex H H1 → ∀ Q : List V → Hp → Prop, (∀ vs H2 Hd, Gr H H1 H2 Hd → DtAll K Hd vs ds → Q vs H2) → ta σ H1 Q
/-- a promise over data: from such arguments this comes, and the heap only grows -/
def spD (K : Frag) (F : List PyData → PyData → Prop) : Sp := fun vs H Q _ => ∃ ds d H0, Ex H0 H ∧ DtAll K H0 vs ds ∧ F ds d ∧ ∀ v H2 Hd, Gr H0 H H2 Hd → Dt K Hd v d → Q v H2
section
variable {K : Frag} {σ : L2.St} {H H' : Hp} {ta tb te tx : TE} {t u : TT} {d e : PyData}
theorem EvD.mono (x : Ex H H') (h : EvD K te σ H d) : EvD K te σ H' d := fun H1 a Q q => h H1 (x.trans a) Q fun v H2 Hd g hd => q v H2 _ (g.wide x a) (dp_ex (g.wide_r a) _ _ hd)
theorem EvDs.mono {ta : TA} {ds : List PyData} (x : Ex H H') (h : EvDs K ta σ H ds) : EvDs K ta σ H' ds := fun H1 a Q q => h H1 (x.trans a) Q fun v H2 Hd g hd => q v H2 _ (g.wide x a) (dpAll_ex (g.wide_r a) _ _ hd)
theorem evd_of {v : V} (h : Ev te σ H v) (hd : Dt K H v d) : EvD K te σ H d := fun H1 e Q q => h H1 e Q fun H2 e2 => q v H2 H (Gr.base e e2) hd
theorem evd_var {i : Nat} {v : V} (hd : Dt K H v d) (h : σ[i]? = some (some v) := by rfl) : EvD K (tVar i) σ H d := evd_of (ev_var h) hd
theorem evd_int {i : Int} : EvD K (tC (.int i)) σ H (.int i) := evd_of ev_c (.int i)
theorem evd_str {x : Str} : EvD K (tC (.str x)) σ H (.str x) := evd_of ev_c (.str x)
theorem evd_bl {b : Bool} : EvD K (tC (.bl b)) σ H (.bool b) := evd_of ev_c (.bl b)
theorem evd_non : EvD K (tC .non) σ H .none := evd_of ev_c .non
theorem evd_is {d' : PyData} (h : EvD K te σ H d) (e : d = d') : EvD K te σ H d' := e ▸ h
theorem ev_int {i : Int} (h : EvD K te σ H (.int i)) : Ev te σ H (.int i) := fun H1 e Q q => h H1 e Q fun v H2 Hd g hd => by rw [dp_int hd]; exact q H2 g.ex
theorem ev_str {x : Str} (h : EvD K te σ H (.str x)) : Ev te σ H (.str x) := fun H1 e Q q => h H1 e Q fun v H2 Hd g hd => by rw [dp_str hd]; exact q H2 g.ex
theorem ev_bl {b : Bool} (h : EvD K te σ H (.bool b)) : Ev te σ H (.bl b) := fun H1 e Q q => h H1 e Q fun v H2 Hd g hd => by rw [dp_bool hd]; exact q H2 g.ex
theorem evd_b {b : Bool} (h : Ev te σ H (.bl b)) : EvD K te σ H (.bool b) := evd_of h (.bl b)
theorem evd_i {i : Int} (h : Ev te σ H (.int i)) : EvD K te σ H (.int i) := evd_of h (.int i)
theorem evd_s {x : Str} (h : Ev te σ H (.str x)) : EvD K te σ H (.str x) := evd_of h (.str x)
theorem eds_nil : EvDs K tNil σ H [] := fun H1 e _ q => q [] H1 H (Gr.base e (Ex.refl H1)) .nil
theorem eds_cons {tr : TA} {ds : List PyData} (h : EvD K te σ H d) (hr : EvDs K tr σ H ds) : EvDs K (tCons te tr) σ H (d :: ds) := fun H1 e _ q =>
  h H1 e _ fun v H2 A g hd => hr H2 (e.trans g.ex) _ fun vs H3 B g2 hds => q (v :: vs) H3 _ (g.join g2) (.cons (dp_ex join_l _ _ hd) (dpAll_ex (join_r (g.d2.trans g2.ex) g2.d2) _ _ hds))
theorem evd_tup {ta : TA} {ds : List PyData} (h : EvDs K ta σ H ds) (hl : ds.length ≤ 100000) : EvD K (tTup ta) σ H (.tuple ds) := fun H1 e _ q =>
  h H1 e _ fun vs H2 Hd g hds => ⟨by rw [dpAll_len hds]; exact sz_of hl, fun p hp => q (.ref p) _ _ (g.new _ hp) (.tup (st_of upd_same) (dpAll_ex (Ex.new (fresh_back g.d2 hp)) _ _ hds))⟩
theorem evd_lst {ta : TA} {ds : List PyData} (h : EvDs K ta σ H ds) (hl : ds.length ≤ 100000) : EvD K (tLst ta) σ H (.list ds) := fun H1 e _ q =>
  h H1 e _ fun vs H2 Hd g hds => ⟨by rw [dpAll_len hds]; exact sz_of hl, fun p hp => q (.ref p) _ _ (g.new _ hp) (.lst upd_same (dpAll_ex (Ex.new (fresh_back g.d2 hp)) _ _ hds))⟩
theorem evd_call {F : List PyData → PyData → Prop} {ta : TA} {ds : List PyData} {E : XK} (h : EvDs K ta σ H ds) (hf : F ds d) : EvD K (tCall (spD K F) [] E ta) σ H d := fun H1 e Q q =>
  h H1 e _ fun vs H2 A g hds => ⟨ds, d, A, g.d2, by rw [List.append_nil]; exact hds, hf, fun v H3 B g2 hd => q v H3 B
    ⟨g.ex.trans g2.ex, g.xd.trans g2.xd, g2.d2, fun a h0 h1 => g2.fr a (g.fr a h0 h1) (ne_none g.ex h1)⟩ hd⟩
/-- tests -/
theorem et_tru {b : Bool} (h : EvD K te σ H d) (ht : ∀ v H1, Dt K H1 v d → TruV K v H1 b) : EvT (fun σ H Q => te σ H fun x H' => ∃ k, TruV K x H' k ∧ Q k H') σ H b := fun H1 e Q q =>
  h H1 e _ fun v H2 Hd g hd => ⟨b, ht v H2 (dp_ex g.d2 _ _ hd), q H2 g.ex⟩
theorem evd_if {b : Bool} (h : EvT t σ H b) (h1 : b = true → EvD K ta σ H d) (h2 : b = false → EvD K tb σ H d) : EvD K (tIf t ta tb) σ H d := fun H1 e Q q => h H1 e _ fun H2 e2 => by
  cases b with
  | true =>
    show ta σ H2 Q
    exact h1 rfl H2 (e.trans e2) Q fun v H3 Hd g => q v H3 Hd (g.after e2)
  | false =>
    show tb σ H2 Q
    exact h2 rfl H2 (e.trans e2) Q fun v H3 Hd g => q v H3 Hd (g.after e2)
/-! statements: H the heap as it is, H0 the part where the data lie -/
variable {D : Ends} {tu tw : TS} {H0 : Hp}
theorem s_retD (h : EvD K te σ H0 d) (x : Ex H0 H) (k : ∀ v H1 Hd, Gr H0 H H1 Hd → Dt K Hd v d → D.rt v H1) : tRet te D σ H := h H x _ k
theorem s_asgD {i : Nat} (h : EvD K te σ H0 d) (x : Ex H0 H) (k : ∀ v H1 Hd, Gr H0 H H1 Hd → Dt K Hd v d → D.nx (σ.set i (some v)) H1) : tAsg te (gName i) D σ H := h H x _ k
theorem s_dropD (h : EvD K te σ H0 d) (x : Ex H0 H) (k : ∀ v H1 Hd, Gr H0 H H1 Hd → Dt K Hd v d → D.nx σ H1) : tDrop te D σ H := h H x _ k
theorem s_ifD {b : Bool} (h : EvT t σ H0 b) (x : Ex H0 H) (h1 : b = true → ∀ H1, Ex H H1 → tu D σ H1) (h2 : b = false → ∀ H1, Ex H H1 → tw D σ H1) : tIfS t tu tw D σ H := h H x _ fun H1 e => by
  cases b with
  | true => exact h1 rfl H1 e
  | false => exact h2 rfl H1 e
end
end LC

namespace LC
open PySem L2 Evl
/-! ### universal operators: the reading chooses -/
def rOr (r s : R2) : R2 := fun x y H Q => r x y H Q ∨ s x y H Q
abbrev rPlusI : R2 := rI0 fun i j => .int (i + j)
def rPlusS : R2 := fun x y H Q => ∃ i j, x = .str i ∧ y = .str j ∧ i.length + j.length ≤ sizeLine ∧ Q (.str (i ++ j)) H
def rAddU (K : Frag) : R2 := rOr rPlusI (rOr rPlusS (rOr rCat (rCatA K)))
def rMulU (K : Frag) : R2 := rOr (rI CMul fun i j => .int (i * j)) (rOr rRep (rRepT K))
def rInU (K : Frag) (neg : Bool) : R2 := rOr (rIn K neg) (fun x y H Q => ∃ (c : Nat) (z : Str), x = .str ⟨#[c]⟩ ∧ y = .str z ∧ Q (.bl (if neg then !decide (c ∈ z.cps.toList) else decide (c ∈ z.cps.toList))) H)
def rSlU (K : Frag) : V → Option Int → Option Int → Hp → VK → Prop := fun x lo hi H Q => rSlL K x lo hi H Q ∨ rSlA K x lo hi H Q ∨ rSlS x lo hi H Q
def iSeq (K : Frag) (tl : TE) : TI := fun σ H R => iList K tl σ H R ∨ iTup K tl σ H R ∨ iStr tl σ H R
section
variable {X : Cx}
theorem opAdd : OpR X (binaryOp .Add) (rAddU X.K) := OpR.or op_add (OpR.or op_add_str (OpR.or op_cat op_catA))
theorem opMul : OpR X (binaryOp .Mult) (rMulU X.K) := OpR.or op_mul (OpR.or op_rep op_repT)
theorem opIn : OpR X (compareOp .In) (rInU X.K false) := OpR.or op_in_seq (by
  intro pins s σ H x y v u Q I rx ry h
  exact op_in_sign pins s σ H x y v u Q I rx ry h)
theorem opNotIn : OpR X (compareOp .NotIn) (rInU X.K true) := OpR.or op_notIn_seq (by
  intro pins s σ H x y v u Q I rx ry h
  exact op_notIn_sign pins s σ H x y v u Q I rx ry h)
theorem slU : SlR X (rSlU X.K) := SlR.or sl_list (SlR.or sl_tupA sl_str)
theorem pi_seq {tg e : Expr} {te : TE} (he : PE X e te) : PI X tg e (iSeq X.K te) := by
  refine ⟨fun pins s σ H R I h => ?_⟩
  rcases h with h | h | h
  · exact (pi_list he).run pins s σ H R I h
  · exact (pi_tup he).run pins s σ H R I h
  · exact (pi_str he).run pins s σ H R I h
end
/-! ### the type of data -/
def tyN : PyData → String
  | .none => "NoneType"
  | .bool _ => "bool"
  | .int _ => "int"
  | .str _ => "str"
  | .list _ => "list"
  | .tuple _ => "tuple"
  | .dict _ => "dict"
def isT (d : PyData) (T : String) : Bool := tyN d == T || (tyN d == "bool" && T == "int")
theorem kitB_all : ["NoneType", "bool", "int", "str", "list", "tuple", "dict"].all (fun a => ["bool", "int", "str", "list", "tuple", "dict"].all fun b => decide (kitB a b = some (a == b || (a == "bool" && b == "int")))) = true := by decide +kernel
theorem tyN_mem (d : PyData) : tyN d ∈ ["NoneType", "bool", "int", "str", "list", "tuple", "dict"] := by cases d <;> simp [tyN]
theorem kit_isT {K : Frag} (d : PyData) {T : String} (hT : T ∈ ["bool", "int", "str", "list", "tuple", "dict"]) : PySem.W.kitOne K (.type (tyN d)) (.type T) = some (isT d T) :=
  kit_ty (of_decide_eq_true (List.all_eq_true.mp (List.all_eq_true.mp kitB_all _ (tyN_mem d)) _ hT))
section
variable {K : Frag} {σ : L2.St} {H H' : Hp} {ta tb te tx : TE} {t u : TT} {d e : PyData}
theorem dp_ty {v : V} (h : Dt K H v d) : TyX K H v (.type (tyN d)) := by
  cases h with
  | non => exact .base .non
  | bl b => exact .base (.bl b)
  | int i => exact .base (.int i)
  | str x => exact .base (.str x)
  | lst hs _ => exact .base (.lst hs)
  | tup hs _ =>
    rcases hs with (hs | ⟨o, hs⟩) | ⟨o, its, n, hk, hc, _⟩
    · exact .base (.tup hs)
    · exact .fTuple hs
    · exact .kTuple hk hc
theorem ev_isi {T : String} (h : EvD K te σ H d) (hT : T ∈ ["bool", "int", "str", "list", "tuple", "dict"]) : Ev (tCB (rIsi K) (tCons te (tCons (tC (.ty T)) tNil))) σ H (.bl (isT d T)) := fun H1 e Q q =>
  h H1 e _ fun v H2 Hd g hd => ⟨v, .ty T, _, _, _, rfl, .ty T, dp_ty (dp_ex g.d2 _ _ hd), kit_isT d hT, q H2 g.ex⟩
/-! ints, texts -/
theorem ev_addI {i j : Int} (ha : EvD K ta σ H (.int i)) (hb : EvD K tb σ H (.int j)) : EvD K (tOp (rAddU K) ta tb) σ H (.int (i + j)) := evd_i (ev_op (ev_int ha) (ev_int hb) fun H1 _ _ q => .inl ⟨i, j, rfl, rfl, q H1 (Ex.refl H1)⟩)
theorem ev_I0 {g : Int → Int → V} {i j : Int} (ha : EvD K ta σ H (.int i)) (hb : EvD K tb σ H (.int j)) : Ev (tOp (rI0 g) ta tb) σ H (g i j) := ev_op (ev_int ha) (ev_int hb) rv_I0
theorem ev_I {C : Int → Int → Prop} {g : Int → Int → V} {i j : Int} (ha : EvD K ta σ H (.int i)) (hb : EvD K tb σ H (.int j)) (hc : C i j) : Ev (tOp (rI C g) ta tb) σ H (g i j) := ev_op (ev_int ha) (ev_int hb) (rv_I hc)
theorem evd_mulI {i j : Int} (ha : EvD K ta σ H (.int i)) (hb : EvD K tb σ H (.int j)) (hc : CMul i j) : EvD K (tOp (rMulU K) ta tb) σ H (.int (i * j)) := evd_i (ev_op (ev_int ha) (ev_int hb) fun H1 _ _ q => .inl ⟨i, j, rfl, rfl, hc, q H1 (Ex.refl H1)⟩)
/-! two data operands in a row -/
theorem evd_op {r : R2} {z : PyData} (ha : EvD K ta σ H d) (hb : EvD K tb σ H e) (hr : ∀ x y H1 A, Ex A H1 → Dt K A x d → Dt K A y e → ∀ Q : VK, (∀ v H2 B, Gr A H1 H2 B → Dt K B v z → Q v H2) → r x y H1 Q) : EvD K (tOp r ta tb) σ H z := fun H1 e1 Q q =>
  ha H1 e1 _ fun x H2 A g hx => hb H2 (e1.trans g.ex) _ fun y H3 B g2 hy => hr x y H3 _ (g.join g2).d2 (dp_ex join_l _ _ hx) (dp_ex (join_r (g.d2.trans g2.ex) g2.d2) _ _ hy) Q fun v H4 C g3 hv => q v H4 C
    ⟨(g.ex.trans g2.ex).trans g3.ex, (g.join g2).xd.trans g3.xd, g3.d2, fun a h0 h1 => g3.fr a ((g.join g2).fr a h0 h1) (ne_none (g.ex.trans g2.ex) h1)⟩ hv
theorem ev_opd {r : R2} {z : V} (ha : EvD K ta σ H d) (hb : EvD K tb σ H e) (hr : ∀ x y H1, Dt K H1 x d → Dt K H1 y e → ∀ Q : VK, Q z H1 → r x y H1 Q) : Ev (tOp r ta tb) σ H z := fun H1 e1 Q q =>
  ha H1 e1 _ fun x H2 A g hx => hb H2 (e1.trans g.ex) _ fun y H3 B g2 hy => hr x y H3 (dp_ex (g.d2.trans g2.ex) _ _ hx) (dp_ex g2.d2 _ _ hy) Q (q H3 (g.ex.trans g2.ex))
theorem ev_eq (ha : EvD K ta σ H d) (hb : EvD K tb σ H e) (hd : SeqAt.shaped d = true) (he : SeqAt.shaped e = true) : Ev (tOp (rEqD K) ta tb) σ H (.bl (PyData.eqv d e)) := ev_opd ha hb fun x y H1 hx hy Q q => ⟨d, e, dt_dp _ _ hx, dt_dp _ _ hy, hd, he, q⟩
theorem ev_ne (ha : EvD K ta σ H d) (hb : EvD K tb σ H e) (hd : SeqAt.shaped d = true) (he : SeqAt.shaped e = true) : Ev (tOp (rNeD K) ta tb) σ H (.bl (!PyData.eqv d e)) := ev_opd ha hb fun x y H1 hx hy Q q => ⟨d, e, dt_dp _ _ hx, dt_dp _ _ hy, hd, he, q⟩
/-- an item -/
theorem atI_dp {vs : List V} {ds : List PyData} {i : Int} {d : PyData} (h : DtAll K H vs ds) (e : atI ds i = some d) : ∃ v, atI vs i = some v ∧ Dt K H v d := by
  unfold atI at e ⊢
  rw [dpAll_len h]
  cases q : ixN ds.length i with
  | none => rw [q] at e; cases e
  | some j =>
    rw [q] at e
    exact dpAll_at h e
theorem evd_ixT {ds : List PyData} {i : Int} (ha : EvD K ta σ H (.tuple ds)) (hb : EvD K tb σ H (.int i)) (hi : atI ds i = some d) : EvD K (tOp (rIx K) ta tb) σ H d := evd_op ha hb fun x y H1 A e hx hy Q q => by
  obtain ⟨a, xs, rfl, hs, hall⟩ := dp_tup hx
  cases hy
  obtain ⟨v, hv, hd⟩ := atI_dp hall hi
  exact .inr (.inl ⟨a, xs, i, v, rfl, rfl, ex_t e hs, hv, q v H1 A (Gr.base e (Ex.refl H1)) hd⟩)
theorem evd_ixL {ds : List PyData} {i : Int} (ha : EvD K ta σ H (.list ds)) (hb : EvD K tb σ H (.int i)) (hi : atI ds i = some d) : EvD K (tOp (rIx K) ta tb) σ H d := evd_op ha hb fun x y H1 A e hx hy Q q => by
  obtain ⟨a, xs, rfl, hs, hall⟩ := dp_lst hx
  cases hy
  obtain ⟨v, hv, hd⟩ := atI_dp hall hi
  exact .inl ⟨a, xs, i, v, rfl, rfl, sq_of (e _ _ hs), hv, q v H1 A (Gr.base e (Ex.refl H1)) hd⟩
/-- len -/
theorem ev_lenT {ds : List PyData} (ha : EvD K ta σ H (.tuple ds)) : Ev (tCB (fun xs H Q => ∃ x n, xs = [x] ∧ LenV K x H n ∧ Q (.int n) H) (tCons ta tNil)) σ H (.int (ds.length : Int)) := fun H1 e Q q =>
  ha H1 e _ fun v H2 A g hd => by
    obtain ⟨a, xs, rfl, hs, hall⟩ := dp_tup hd
    exact ⟨_, ds.length, rfl, .inr ⟨xs, ex_t g.d2 hs, (dpAll_len hall).symm⟩, q H2 g.ex⟩
theorem ev_lenL {ds : List PyData} (ha : EvD K ta σ H (.list ds)) : Ev (tCB (fun xs H Q => ∃ x n, xs = [x] ∧ LenV K x H n ∧ Q (.int n) H) (tCons ta tNil)) σ H (.int (ds.length : Int)) := fun H1 e Q q =>
  ha H1 e _ fun v H2 A g hd => by
    obtain ⟨a, xs, rfl, hs, hall⟩ := dp_lst hd
    exact ⟨_, ds.length, rfl, .inl ⟨xs, sq_of (g.d2 _ _ hs), (dpAll_len hall).symm⟩, q H2 g.ex⟩
theorem ev_lenS {x : Str} (ha : EvD K ta σ H (.str x)) (hl : x.length ≤ sizeLine) : Ev (tCB (fun xs H Q => ∃ x n, xs = [x] ∧ LenV K x H n ∧ Q (.int n) H) (tCons ta tNil)) σ H (.int (x.length : Int)) := fun H1 e Q q =>
  ha H1 e _ fun v H2 A g hd => by
    rw [dp_str hd]
    exact ⟨_, x.length, rfl, ⟨hl, rfl⟩, q H2 g.ex⟩
/-- a slice -/
theorem eo_i {i : Int} (h : EvD K te σ H (.int i)) : EvO (tPart te) σ H (some i) := fun H1 e Q q => h H1 e _ fun v H2 A g hd => ⟨i, dp_int hd, q H2 g.ex⟩
def cutD (ds : List PyData) (lo hi : Option Int) : List PyData := (ds.drop (HT.sIx ds.length 0 lo)).take (HT.sIx ds.length ds.length hi - HT.sIx ds.length 0 lo)
theorem cutV_dp {vs : List V} {ds : List PyData} (h : DtAll K H vs ds) (lo hi : Option Int) : DtAll K H (cutV vs lo hi) (cutD ds lo hi) := by
  unfold cutV cutD
  rw [dpAll_len h]
  exact dpAll_take _ (dpAll_drop _ h)
theorem cut_whole {ds : List PyData} {lo hi : Option Int} (h : HT.sIx ds.length 0 lo = 0 ∧ HT.sIx ds.length ds.length hi = ds.length) : cutD ds lo hi = ds := by
  unfold cutD
  rw [h.1, h.2]
  simp
theorem evd_slT {ds : List PyData} {lo hi : TO} {l h : Option Int} (ha : EvD K ta σ H (.tuple ds)) (hl : EvO lo σ H l) (hh : EvO hi σ H h) : EvD K (tSl (rSlU K) ta lo hi) σ H (.tuple (cutD ds l h)) := fun H1 e Q q =>
  ha H1 e _ fun v H2 A g hd => hl H2 (e.trans g.ex) _ fun H3 e3 => hh H3 ((e.trans g.ex).trans e3) _ fun H4 e4 => by
    obtain ⟨a, xs, rfl, hs, hall⟩ := dp_tup hd
    have hl := dpAll_len hall
    have g4 : Gr H H1 H4 A := g.more (e3.trans e4)
    refine .inr (.inl ⟨a, xs, rfl, ex_t g4.d2 hs, fun hw => ?_, fun hw p hp => ?_⟩)
    · rw [hl] at hw
      refine q _ H4 A g4 ?_
      rw [cut_whole hw]
      exact .tup hs hall
    · exact q _ _ _ (g4.new _ hp) (.tup (st_of upd_same) (dpAll_ex (Ex.new (fresh_back g4.d2 hp)) _ _ (cutV_dp hall l h)))
theorem evd_slL {ds : List PyData} {lo hi : TO} {l h : Option Int} (ha : EvD K ta σ H (.list ds)) (hl : EvO lo σ H l) (hh : EvO hi σ H h) : EvD K (tSl (rSlU K) ta lo hi) σ H (.list (cutD ds l h)) := fun H1 e Q q =>
  ha H1 e _ fun v H2 A g hd => hl H2 (e.trans g.ex) _ fun H3 e3 => hh H3 ((e.trans g.ex).trans e3) _ fun H4 e4 => by
    obtain ⟨a, xs, rfl, hs, hall⟩ := dp_lst hd
    have g4 : Gr H H1 H4 A := g.more (e3.trans e4)
    exact .inl ⟨a, xs, rfl, sq_of (g4.d2 _ _ hs), fun p hp => q _ _ _ (g4.new _ hp) (.lst upd_same (dpAll_ex (Ex.new (fresh_back g4.d2 hp)) _ _ (cutV_dp hall l h)))⟩
/-- x in a sequence of flat things -/
def flatD : PyData → Bool
  | .none => true
  | .bool _ => true
  | .int _ => true
  | .str _ => true
  | _ => false
theorem flat_dp {v : V} (h : Dt K H v d) (f : flatD d = true) : flatV v = true := by
  cases h <;> first | rfl | cases f
theorem flats_dp : ∀ {vs : List V} {ds : List PyData}, DtAll K H vs ds → ds.all flatD = true → vs.all flatV = true
  | _, _, .nil, _ => rfl
  | _, _, .cons h t, f => by
    rw [List.all_cons, Bool.and_eq_true] at f ⊢
    exact ⟨flat_dp h f.1, flats_dp t f.2⟩
theorem eqV_dp {x y : V} {d e : PyData} (hx : Dt K H x d) (hy : Dt K H y e) (fd : flatD d = true) (fe : flatD e = true) : eqV x y = PyData.eqv d e := by
  cases hx <;> cases hy <;> first | (simp [flatD] at fd; done) | (simp [flatD] at fe; done) | rfl | (simp only [eqV, PyData.eqv]; done)
def inD (d : PyData) (ds : List PyData) : Bool := ds.any fun e => PyData.eqv e d
theorem inV_dp {x : V} {d : PyData} (hx : Dt K H x d) (fd : flatD d = true) : ∀ {vs : List V} {ds : List PyData}, DtAll K H vs ds → ds.all flatD = true → inV x vs = inD d ds
  | _, _, .nil, _ => rfl
  | _, _, .cons h t, f => by
    rw [List.all_cons, Bool.and_eq_true] at f
    show (eqV _ x || inV x _) = (PyData.eqv _ d || inD d _)
    rw [eqV_dp h hx f.1 fd, inV_dp hx fd t f.2]
theorem ev_inT {neg : Bool} {ds : List PyData} (ha : EvD K ta σ H d) (hb : EvD K tb σ H (.tuple ds)) (fd : flatD d = true) (fs : ds.all flatD = true) : Ev (tOp (rInU K neg) ta tb) σ H (.bl (if neg then !inD d ds else inD d ds)) := ev_opd ha hb fun x y H1 hx hy Q q => by
  obtain ⟨a, xs, rfl, hs, hall⟩ := dp_tup hy
  exact .inl ⟨a, xs, rfl, .inr hs, flat_dp hx fd, flats_dp hall fs, by rw [inV_dp hx fd hall fs]; exact q⟩
theorem ev_inL {neg : Bool} {ds : List PyData} (ha : EvD K ta σ H d) (hb : EvD K tb σ H (.list ds)) (fd : flatD d = true) (fs : ds.all flatD = true) : Ev (tOp (rInU K neg) ta tb) σ H (.bl (if neg then !inD d ds else inD d ds)) := ev_opd ha hb fun x y H1 hx hy Q q => by
  obtain ⟨a, xs, rfl, hs, hall⟩ := dp_lst hy
  exact .inl ⟨a, xs, rfl, .inl (sq_of hs), flat_dp hx fd, flats_dp hall fs, by rw [inV_dp hx fd hall fs]; exact q⟩
theorem ev_inS {neg : Bool} {c : Nat} {z : Str} (ha : EvD K ta σ H (.str ⟨#[c]⟩)) (hb : EvD K tb σ H (.str z)) : Ev (tOp (rInU K neg) ta tb) σ H (.bl (if neg then !decide (c ∈ z.cps.toList) else decide (c ∈ z.cps.toList))) := ev_opd ha hb fun x y H1 hx hy Q q => by
  cases hx
  cases hy
  exact .inr ⟨c, z, rfl, rfl, q⟩
/-- lists, tuples one behind the other -/
theorem evd_addT {ds es : List PyData} (ha : EvD K ta σ H (.tuple ds)) (hb : EvD K tb σ H (.tuple es)) (hl : ds.length + es.length ≤ 100000) : EvD K (tOp (rAddU K) ta tb) σ H (.tuple (ds ++ es)) := evd_op ha hb fun x y H1 A e hx hy Q q => by
  obtain ⟨a, xs, rfl, hs, h1⟩ := dp_tup hx
  obtain ⟨b, ys, rfl, ht, h2⟩ := dp_tup hy
  refine .inr (.inr (.inr ⟨a, b, xs, ys, rfl, rfl, ex_t e hs, ex_t e ht, by rw [dpAll_len h1, dpAll_len h2]; exact sz_of hl, fun z => ?_, fun _ z => ?_, fun _ _ p hp => ?_⟩))
  · subst z
    cases h1
    exact q _ H1 A (Gr.base e (Ex.refl H1)) (.tup ht h2)
  · subst z
    cases h2
    rw [List.append_nil] at q
    exact q _ H1 A (Gr.base e (Ex.refl H1)) (.tup hs h1)
  · exact q _ _ _ ((Gr.base e (Ex.refl H1)).new _ hp) (.tup (st_of upd_same) (dpAll_ex (Ex.new (fresh_back e hp)) _ _ (dpAll_app h1 h2)))
/-- two lists, both of their own (tracked) -/
theorem evd_addL {ds es : List PyData} (ha : EvD K ta σ H (.list ds)) (hb : EvD K tb σ H (.list es)) (hl : ds.length + es.length ≤ 100000) : EvD K (tOp (rAddU K) ta tb) σ H (.list (ds ++ es)) := evd_op ha hb fun x y H1 A e dx dy Q q => by
  obtain ⟨a, xs, rfl, hs, h1⟩ := dp_lst dx
  obtain ⟨b, ys, rfl, ht, h2⟩ := dp_lst dy
  refine .inr (.inr (.inl ⟨a, b, xs, ys, rfl, rfl, e _ _ hs, e _ _ ht, by rw [dpAll_len h1, dpAll_len h2]; exact sz_of hl, fun p hp => ?_⟩))
  exact q _ _ _ ((Gr.base e (Ex.refl H1)).new _ hp) (.lst upd_same (dpAll_ex (Ex.new (fresh_back e hp)) _ _ (dpAll_app h1 h2)))
end
end LC

namespace LC
open PySem L2 Evl
/-! ### a list that is being filled -/
/-- D, new behind H2, holds out; what it holds lies among A's data and what is new -/
def Acc (K : Frag) (A H2 : Hp) (D : Addr) (out : List PyData) (H' : Hp) : Prop := Ex H2 H' ∧ ∃ B acc, H' D = some (.lst acc) ∧ Ex A B ∧ Ex B H' ∧ B D = none ∧ (∀ a, A a = none → H2 a ≠ none → B a = none) ∧ DtAll K B acc out
section
variable {K : Frag} {A H H1 H2 H3 H4 H' H'' C Hd : Hp} {D : Addr} {out : List PyData} {d : PyData} {y : V}
theorem Acc.nil (e : Ex A H2) (hD : H2 D = none) : Acc K A H2 D [] (upd H2 D (.lst [])) :=
  ⟨Ex.new hD, A, [], upd_same, Ex.refl A, e.trans (Ex.new hD), fresh_back e hD, fun _ h _ => h, .nil⟩
theorem Acc.grow (h : Acc K A H2 D out H') (e : Ex H' H'') : Acc K A H2 D out H'' := by
  obtain ⟨x, B, acc, h1, h2, h3, h4, h5, h6⟩ := h
  exact ⟨x.trans e, B, acc, e _ _ h1, h2, h3.trans e, h4, h5, h6⟩
theorem Acc.at (h : Acc K A H2 D out H') : ∃ acc, H' D = some (.lst acc) ∧ acc.length = out.length := by
  obtain ⟨x, B, acc, h1, h2, h3, h4, h5, h6⟩ := h
  exact ⟨acc, h1, dpAll_len h6⟩
theorem Acc.base (h : Acc K A H2 D out H') : Ex A H' := by
  obtain ⟨x, B, acc, h1, h2, h3, h4, h5, h6⟩ := h
  exact h2.trans h3
theorem Acc.start (e : Ex A H2) (x : Ex H2 H') (hD : H2 D = none) (h : H' D = some (.lst [])) : Acc K A H2 D [] H' :=
  ⟨x, A, [], h, Ex.refl A, e.trans x, fresh_back e hD, fun _ h _ => h, .nil⟩
theorem Acc.rebase (h : Acc K A H2 D out H') (x : Ex A Hd) (y : Ex Hd H') (n : Hd D = none) : Acc K Hd H2 D out H' := by
  obtain ⟨x0, B, acc, h1, h2, h3, h4, h5, h6⟩ := h
  refine ⟨x0, join B Hd, acc, h1, join_r h3 y, join_to h3 y, by unfold join; rw [h4]; exact n, fun a ha hn => ?_, dpAll_ex join_l _ _ h6⟩
  have e1 := h5 a (fresh_back x ha) hn
  unfold join
  rw [e1]
  exact ha
theorem ex_upd {B H4 : Hp} {o : HO} (e : Ex B H4) (h : B D = none) : Ex B (upd H4 D o) := fun a u q => by
  rw [upd_ne (ne_of_none q h)]
  exact e a u q
/-- several at once -/
theorem Acc.push' {ys : List V} {ds : List PyData} (h : Acc K A H2 D out H3) (hA : A D = none) (hD : H2 D = none) (g : Gr A H3 H4 C) (hy : DtAll K C ys ds) :
    ∃ acc, H4 D = some (.lst acc) ∧ acc.length = out.length ∧ Acc K A H2 D (out ++ ds) (upd H4 D (.lst (acc ++ ys))) := by
  obtain ⟨x, B, acc, h1, h2, h3, h4, h5, h6⟩ := h
  have cD : C D = none := g.fr D hA (by rw [h1]; exact fun z => nomatch z)
  have bj : Ex B (join B C) := join_l
  have cj : Ex C (join B C) := join_r (h3.trans g.ex) g.d2
  have jD : join B C D = none := by unfold join; rw [h4]; exact cD
  refine ⟨acc, g.ex _ _ h1, dpAll_len h6, Ex.mut (x.trans g.ex) hD, join B C, acc ++ ys, upd_same, h2.trans bj, ex_upd (join_to (h3.trans g.ex) g.d2) jD, jD, fun a h0 hn => ?_, dpAll_app (dpAll_ex bj _ _ h6) (dpAll_ex cj _ _ hy)⟩
  have e1 := h5 a h0 hn
  have e2 := g.fr a h0 (ne_none x hn)
  unfold join
  rw [e1]
  exact e2
theorem Acc.push (h : Acc K A H2 D out H3) (hA : A D = none) (hD : H2 D = none) (g : Gr A H3 H4 C) (hy : Dt K C y d) :
    ∃ acc, H4 D = some (.lst acc) ∧ acc.length = out.length ∧ Acc K A H2 D (out ++ [d]) (upd H4 D (.lst (acc ++ [y]))) := h.push' hA hD g (.cons hy .nil)
theorem Acc.done (h : Acc K A H2 D out H') (xd : Ex H A) (fr : ∀ a, H a = none → H1 a ≠ none → A a = none) (ex : Ex H1 H2) (hD : H2 D = none) : ∃ Hd, Gr H H1 H' Hd ∧ Dt K Hd (.ref D) (.list out) := by
  obtain ⟨x, B, acc, h1, h2, h3, h4, h5, h6⟩ := h
  refine ⟨upd B D (.lst acc), ⟨ex.trans x, (xd.trans h2).trans (Ex.new h4), fun a u q => ?_, fun a h0 hn => ?_⟩, .lst upd_same (dpAll_ex (Ex.new h4) _ _ h6)⟩
  · by_cases e : a = D
    · subst e
      rw [upd_same] at q
      cases q
      exact h1
    · rw [upd_ne e] at q
      exact h3 a u q
  · have ne : a ≠ D := fun z => hn (by rw [z]; exact fresh_back ex hD)
    rw [upd_ne ne]
    exact h5 a (fr a h0 hn) (ne_none ex hn)
end
/-! ### comprehensions over data -/
section
variable {K : Frag} {σ : L2.St} {H : Hp} {te tl : TE} {tt : TT} {j : Nat} {vs : List Nat}
theorem lc_turn {A H2 H' : Hp} {D : Addr} {out : List PyData} {σ2 : L2.St} {b : Bool} {z : PyData} (e : Ex A H2) (hD : H2 D = none) (p : Acc K A H2 D out H') (hl : out.length < 50000) (ht : EvT tt σ2 A b) (he : b = true → EvD K te σ2 A z) :
    tt σ2 H' fun b' H3 => if b' = true then te σ2 H3 fun y H4 => ∃ acc, H4 D = some (.lst acc) ∧ acc.length < sizeLine ∧ Acc K A H2 D (if b then out ++ [z] else out) (upd H4 D (.lst (acc ++ [y]))) else Acc K A H2 D (if b then out ++ [z] else out) H3 := by
  refine ht H' (p.base) _ fun H3 e3 => ?_
  cases b with
  | true =>
    show te σ2 H3 _
    refine he rfl H3 ((p.base).trans e3) _ fun y H4 C g hy => ?_
    obtain ⟨acc, h1, h2, h3⟩ := (p.grow e3).push (fresh_back e hD) hD g hy
    exact ⟨acc, h1, sz_lt (by omega), h3⟩
  | false => exact p.grow e3
theorem take_snoc {ds : List PyData} {i : Nat} {d : PyData} (h : ds[i]? = some d) : ds.take (i + 1) = ds.take i ++ [d] := by
  rw [List.take_add_one, h] <;> rfl
theorem out_snoc {ds : List PyData} {i : Nat} {d : PyData} (f : PyData → Bool) (g : PyData → PyData) (h : ds[i]? = some d) :
    ((ds.take (i + 1)).filter f).map g = if f d then ((ds.take i).filter f).map g ++ [g d] else ((ds.take i).filter f).map g := by
  rw [take_snoc h, List.filter_append, List.map_append]
  cases q : f d with
  | true => simp [q]
  | false => simp [q]
theorem out_len {ds : List PyData} (f : PyData → Bool) (g : PyData → PyData) (i : Nat) : (((ds.take i).filter f).map g).length ≤ ds.length := by
  rw [List.length_map]
  refine Nat.le_trans (List.length_filter_le _ _) ?_
  rw [List.length_take]
  omega
theorem evd_lcT {ds : List PyData} (f : PyData → Bool) (g : PyData → PyData) (h : EvD K tl σ H (.tuple ds)) (hz : ds.length ≤ 40000) (hw : ∀ x, wipe ((wipe σ vs).set j (some x)) vs = wipe σ vs)
    (ht : ∀ x d H1, Ex H H1 → d ∈ ds → Dt K H1 x d → EvT tt ((wipe σ vs).set j (some x)) H1 (f d)) (he : ∀ x d H1, Ex H H1 → d ∈ ds → f d = true → Dt K H1 x d → EvD K te ((wipe σ vs).set j (some x)) H1 (g d)) :
    EvD K (tLc (iSeq K tl) (gName j) tt te vs) σ H (.list ((ds.filter f).map g)) := fun H1 e Q q => by
  refine .inr (.inl (h H1 e _ fun v H2 A gr hd => ?_))
  obtain ⟨a, xs, rfl, hs, hall⟩ := dp_tup hd
  refine ⟨a, rfl, ⟨xs, ex_t gr.d2 hs⟩, fun D hD => ?_⟩
  refine lc_tup (K := K) (a := a) (xs := xs) (fun i H' => Acc K A H2 D (((ds.take i).filter f).map g) H') (Acc.nil gr.d2 hD) (fun i H' _ p => ex_t (p.base) hs) (fun i x H' hi p => ?_) fun H' p => ?_
  · obtain ⟨d, hdi, hx⟩ := dpAll_of hall hi
    have hm : d ∈ ds := List.mem_of_getElem? hdi
    have hl := out_len (ds := ds) f g i
    refine ⟨hw x, ?_⟩
    rw [out_snoc f g hdi]
    exact lc_turn gr.d2 hD p (by omega) (ht x d A gr.xd hm hx) (fun hf => he x d A gr.xd hm hf hx)
  · have p2 : Acc K A H2 D (((ds.take xs.length).filter f).map g) H' := p
    rw [dpAll_len hall, List.take_length] at p2
    obtain ⟨Hd, g1, g2⟩ := p2.done gr.xd gr.fr gr.ex hD
    exact q _ H' Hd g1 g2
theorem evd_lcL {ds : List PyData} (f : PyData → Bool) (g : PyData → PyData) (h : EvD K tl σ H (.list ds)) (hz : ds.length ≤ 40000) (hw : ∀ x, wipe ((wipe σ vs).set j (some x)) vs = wipe σ vs)
    (ht : ∀ x d H1, Ex H H1 → d ∈ ds → Dt K H1 x d → EvT tt ((wipe σ vs).set j (some x)) H1 (f d)) (he : ∀ x d H1, Ex H H1 → d ∈ ds → f d = true → Dt K H1 x d → EvD K te ((wipe σ vs).set j (some x)) H1 (g d)) :
    EvD K (tLc (iSeq K tl) (gName j) tt te vs) σ H (.list ((ds.filter f).map g)) := fun H1 e Q q => by
  refine .inl (h H1 e _ fun v H2 A gr hd => ?_)
  obtain ⟨a, xs, rfl, hs, hall⟩ := dp_lst hd
  refine ⟨a, rfl, ⟨xs, sq_of (gr.d2 _ _ hs)⟩, fun D hD => ?_⟩
  refine lc_list (K := K) (a := a) (xs := xs) (fun i H' => Acc K A H2 D (((ds.take i).filter f).map g) H') (Acc.nil gr.d2 hD) (fun i H' _ p => sq_of (p.base _ _ hs)) (fun i x H' hi p => ?_) fun H' p => ?_
  · obtain ⟨d, hdi, hx⟩ := dpAll_of hall hi
    have hm : d ∈ ds := List.mem_of_getElem? hdi
    have hl := out_len (ds := ds) f g i
    refine ⟨hw x, ?_⟩
    rw [out_snoc f g hdi]
    exact lc_turn gr.d2 hD p (by omega) (ht x d A gr.xd hm hx) (fun hf => he x d A gr.xd hm hf hx)
  · have p2 : Acc K A H2 D (((ds.take xs.length).filter f).map g) H' := p
    rw [dpAll_len hall, List.take_length] at p2
    obtain ⟨Hd, g1, g2⟩ := p2.done gr.xd gr.fr gr.ex hD
    exact q _ H' Hd g1 g2
/-- over a range -/
theorem evd_lcR {ta : TA} {n : Nat} (g : Nat → PyData) (h : EvDs K ta σ H [.int (n : Int)]) (hz : n ≤ 40000) (hw : ∀ x, wipe ((wipe σ vs).set j (some x)) vs = wipe σ vs)
    (he : ∀ i H1, Ex H H1 → i < n → EvD K te ((wipe σ vs).set j (some (.int (i : Int)))) H1 (g i)) :
    EvD K (tLc (iRng1 ta) (gName j) tYes te vs) σ H (.list ((List.range n).map g)) := fun H1 e Q q => h H1 e _ fun ws H2 A gr hd => by
  obtain rfl : ws = [.int (n : Int)] := by
    cases hd with
    | cons h1 h2 => cases h2; rw [dp_int h1]
  refine ⟨n, rfl, by omega, by omega, fun D hD => ?_⟩
  refine lc_range (lo := 0) (n := (n : Int).toNat) (fun i H' => Acc K A H2 D ((List.range i).map g) H') (Acc.nil gr.d2 hD) (fun i H' hi p => ?_) fun H' p => ?_
  · have e0 : (0 : Int) + (i : Int) = (i : Int) := Int.zero_add _
    have hi2 : i < n := by omega
    have key := lc_turn (b := true) (tt := tYes) (te := te) (σ2 := (wipe σ vs).set j (some (.int (i : Int)))) gr.d2 hD p (by rw [List.length_map, List.length_range]; omega) (fun H1 _ _ q => q H1 (Ex.refl H1)) (fun _ => he i A gr.xd hi2)
    have e1 : (List.range (i + 1)).map g = (List.range i).map g ++ [g i] := by rw [List.range_succ, List.map_append] <;> rfl
    show gName j (.int ((0 : Int) + (i : Int))) (wipe σ vs) H' _
    rw [e0]
    refine ⟨hw _, ?_⟩
    rw [e1]
    exact key
  · have p2 : Acc K A H2 D ((List.range (n : Int).toNat).map g) H' := p
    rw [Int.toNat_natCast] at p2
    obtain ⟨Hd, g1, g2⟩ := p2.done gr.xd gr.fr gr.ex hD
    exact q _ H' Hd g1 g2
end
/-! ### a def by its name -/
/-- the module's x is a def that keeps sp -/
def Has (P : Program) (w : World) (K : Frag) (mg : Str → Option Value) (base : Heap) (CX : CXT) (k : Nat) (x : Str) (ps : List Str) (sp : Sp) : Prop :=
  ∃ f fd, FnOk P w K mg base CX k f fd ps sp ∧ Binds K fd ps [] ∧ PySem.W.keepIn K (.ref f) = true ∧ mg x = some (.ref f)
section
variable {X : Cx} {CX : CXT} {k j : Nat} {x : Str} {ps : List Str} {sp : Sp} {E : XK} {p pos : Pos} {e : Expr} {es : List Expr} {t : TA}
theorem pe_has (F : Has X.prog X.w X.K X.mg X.base CX k x ps sp) (hr : Room j X.A) (hk : k ≤ j) (hg : Gl X x) (hx : Passes CX X E) (ha : PA X (e :: es) t) (hdb : (x == ("__debug__" : Str)) = false := by decide)
    (he : starEach (e :: es) X.env = (false, eval e X.env) :: starEach es X.env := by rfl) (hpl : (backTo pos (starEach es X.env)).any (·.1) = false := by rfl) : PE X (.Call (.Name x p) (e :: es) [] pos) (tCall sp [] E t) := by
  obtain ⟨f, fd, G, b, kp, m⟩ := F
  exact pe_call G (hr.mono hk) hg m kp b .nil hx ha hdb he hpl
theorem pe_has0 (F : Has X.prog X.w X.K X.mg X.base CX k x ps sp) (hr : Room j X.A) (hk : k ≤ j) (hg : Gl X x) (hx : Passes CX X E) (hdb : (x == ("__debug__" : Str)) = false := by decide) : PE X (.Call (.Name x p) [] [] pos) (tCall sp [] E tNil) := by
  obtain ⟨f, fd, G, b, kp, m⟩ := F
  exact pe_call0 G (hr.mono hk) hg m kp b .nil hx hdb
end
end LC

namespace LC
open PySem L2 Evl
/-! ### the rules with the written part named (so that a block's reading does not speak of the block) -/
def freeN : List Str := ["len", "isinstance", "range", "tuple", "sorted", "set", "int", "str", "bool", "list", "min", "zip", "enumerate", "dict", "ValueError"]
structure Tx (mg : Str → Option Value) : Prop where
  free : ∀ {x : Str}, x ∈ freeN → mg x = none
abbrev rLenU (K : Frag) : List V → Hp → VK → Prop := fun xs H Q => ∃ x n, xs = [x] ∧ LenV K x H n ∧ Q (.int n) H
abbrev rTupU (K : Frag) : List V → Hp → VK → Prop := fun xs H Q => ∃ p ys, xs = [.ref p] ∧ ((SqL K H p ys ∧ ∀ l, H l = none → Q (.ref l) (upd H l (.tup ys))) ∨ (SqT K H p ys ∧ Q (.ref p) H))
abbrev rLstU (K : Frag) : List V → Hp → VK → Prop := fun xs H Q => ∃ p ys, xs = [.ref p] ∧ (SqL K H p ys ∨ SqT K H p ys) ∧ ∀ l, H l = none → Q (.ref l) (upd H l (.lst ys))
abbrev tTrU (K : Frag) (ta : TE) : TT := fun σ H Q => ta σ H fun x H' => ∃ k, TruV K x H' k ∧ Q k H'
section
variable {X : Cx} {K : Frag} {a : Expr} {ta : TE} {pos : Pos} {x : Str}
theorem kAdd (h : X.K = K) : OpR X (binaryOp .Add) (rAddU K) := h ▸ opAdd
theorem kMul (h : X.K = K) : OpR X (binaryOp .Mult) (rMulU K) := h ▸ opMul
theorem kIn (h : X.K = K) : OpR X (compareOp .In) (rInU K false) := h ▸ opIn
theorem kNotIn (h : X.K = K) : OpR X (compareOp .NotIn) (rInU K true) := h ▸ opNotIn
theorem kEq (h : X.K = K) (hu : X.A.units + 64 < cLine) : OpR X (compareOp .Eq) (rEqD K) := h ▸ op_eqD hu
theorem kNe (h : X.K = K) (hu : X.A.units + 64 < cLine) : OpR X (compareOp .NotEq) (rNeD K) := h ▸ op_neD hu
theorem kSl (h : X.K = K) : SlR X (rSlU K) := h ▸ slU
theorem kIx (h : X.K = K) : IxR X (rIx K) := h ▸ ix_seq
theorem kSeq {tg : Expr} (h : X.K = K) (he : PE X a ta) : PI X tg a (iSeq K ta) := h ▸ pi_seq he
theorem kLen (h : X.K = K) : CallR X (.builtin "len") (rLenU K) := h ▸ call_len
theorem kIsi (h : X.K = K) : CallR X (.builtin "isinstance") (rIsi K) := h ▸ call_isi
theorem kTup (h : X.K = K) : CallR X (.type "tuple") (rTupU K) := h ▸ call_tuple_of
theorem kLst (h : X.K = K) : CallR X (.type "list") (rLstU K) := h ▸ call_list_of
theorem kTruth (h : X.K = K) (ha : PE X a ta) (he : ∀ whole, isTrue a X.env whole = (do let v ← whole; standAt a.pos; holding [v] (truthy v)) := by intro _; rfl) : PT X a (tTrU K ta) := h ▸ pt_truth ha he
theorem kNot (h : X.K = K) (ha : PE X a ta) : PE X (.UnaryOp .Not a pos) (tNotT K ta) := h ▸ pe_notT ha
theorem pe_gint {i : Int} (h : ∃ t, X.mg x = some (.int i t)) (hg : Gl X x := by rfl) (hd : (x == ("__debug__" : Str)) = false := by decide) : PE X (.Name x pos) (tC (.int i)) := by
  obtain ⟨t, h⟩ := h
  exact pe_glob hg h ⟨t, rfl⟩ hd
theorem pe_gstr {z : Str} (h : ∃ t, X.mg x = some (.str z t)) (hg : Gl X x := by rfl) (hd : (x == ("__debug__" : Str)) = false := by decide) : PE X (.Name x pos) (tC (.str z)) := by
  obtain ⟨t, h⟩ := h
  exact pe_glob hg h ⟨t, rfl⟩ hd
theorem pe_gref {a : Addr} (h : X.mg x = some (.ref a)) (hg : Gl X x := by rfl) (hd : (x == ("__debug__" : Str)) = false := by decide) : PE X (.Name x pos) (tC (.ref a)) := pe_glob hg h rfl hd
end
end LC

namespace LC
open PySem L2 Evl
/-! ### more readings -/
/-- texts that are short (all of them are), deep down -/
def okD : PyData → Bool
  | .str s => decide (s.length ≤ 100000) && PyData.strOk s
  | .list ds => okAll ds
  | .tuple ds => okAll ds
  | .dict _ => false
  | _ => true
where okAll : List PyData → Bool
  | [] => true
  | d :: ds => okD d && okAll ds
theorem okAll_mem : ∀ {ds : List PyData} {d : PyData}, okD.okAll ds = true → d ∈ ds → okD d = true
  | [], _, _, h => by cases h
  | e :: ds, d, ho, h => by
    have h2 : (okD e && okD.okAll ds) = true := by
      unfold okD.okAll at ho
      exact ho
    rw [Bool.and_eq_true] at h2
    rcases List.mem_cons.mp h with rfl | h
    · exact h2.1
    · exact okAll_mem h2.2 h
theorem okAll_of : ∀ {ds : List PyData}, (∀ d ∈ ds, okD d = true) → okD.okAll ds = true
  | [], _ => by unfold okD.okAll; rfl
  | e :: ds, h => by
    unfold okD.okAll
    rw [Bool.and_eq_true]
    exact ⟨h e (List.mem_cons_self ..), okAll_of fun d hd => h d (List.mem_cons_of_mem _ hd)⟩
theorem ok_tup {ds : List PyData} (h : okD (.tuple ds) = true) {d : PyData} (hd : d ∈ ds) : okD d = true := okAll_mem (by unfold okD at h; exact h) hd
theorem ok_lst {ds : List PyData} (h : okD (.list ds) = true) {d : PyData} (hd : d ∈ ds) : okD d = true := okAll_mem (by unfold okD at h; exact h) hd
theorem ok_str {s : Str} (h : okD (.str s) = true) : s.length ≤ 100000 := by unfold okD at h; exact of_decide_eq_true (Bool.and_eq_true_iff.mp h).1
theorem shapedS {s : Str} (h : okD (.str s) = true) : SeqAt.shaped (.str s) = true := by
  unfold okD at h
  show (PyData.canLay0 (.str s) && decide (PyData.depth (.str s) ≤ 64)) = true
  unfold PyData.canLay0 PyData.depth
  rw [(Bool.and_eq_true_iff.mp h).2]
  rfl
theorem ok_sign {s : Str} (h : okD (.str s) = true) {c : Nat} (hc : c ∈ s.cps.toList) : okD (.str ⟨#[c]⟩) = true := by
  unfold okD at h ⊢
  have h2 := (Bool.and_eq_true_iff.mp h).2
  unfold PyData.strOk at h2 ⊢
  have h3 : c < 0x110000 := by
    rw [Array.all_eq_true'] at h2
    exact of_decide_eq_true (h2 c (Array.mem_def.mpr hc))
  rw [Bool.and_eq_true]
  exact ⟨rfl, by simp [h3]⟩
theorem ok_tup_of {ds : List PyData} (h : ∀ d ∈ ds, okD d = true) : okD (.tuple ds) = true := by unfold okD; exact okAll_of h
theorem ok_lst_of {ds : List PyData} (h : ∀ d ∈ ds, okD d = true) : okD (.list ds) = true := by unfold okD; exact okAll_of h
/-- truth -/
def truD : PyData → Bool
  | .none => false
  | .bool b => b
  | .int i => i != 0
  | .str s => (s.length : Int) != 0
  | .list ds => !ds.isEmpty
  | .tuple ds => !ds.isEmpty
  | .dict _ => false
section
variable {K : Frag} {σ : L2.St} {H H' : Hp} {ta tb tc te tx : TE} {t u : TT} {d e : PyData}
theorem empty_dp {vs : List V} {ds : List PyData} (h : DtAll K H vs ds) : (!ds.isEmpty) = !vs.isEmpty := by
  cases h <;> rfl
theorem tru_dp {v : V} (h : Dt K H v d) (ok : okD d = true) : TruV K v H (truD d) := by
  cases h with
  | non => rfl
  | bl b => rfl
  | int i => rfl
  | str x => exact ⟨sz_of (ok_str ok), rfl⟩
  | lst hs ha => exact .inl ⟨_, sq_of hs, empty_dp ha⟩
  | tup hs ha => exact .inr (.inl ⟨_, hs, empty_dp ha⟩)
theorem et_d (h : EvD K te σ H d) (ok : okD d = true) : EvT (tTrU K te) σ H (truD d) := fun H1 e Q q =>
  h H1 e _ fun v H2 Hd g hd => ⟨_, tru_dp (dp_ex g.d2 _ _ hd) ok, q H2 g.ex⟩
theorem et_b {b : Bool} (h : Ev te σ H (.bl b)) : EvT (tTrU K te) σ H b := fun H1 e Q q => h H1 e _ fun H2 e2 => ⟨b, rfl, q H2 e2⟩
theorem ev_notD (h : EvD K te σ H d) (ok : okD d = true) : Ev (tNotT K te) σ H (.bl (!truD d)) := fun H1 e Q q =>
  h H1 e _ fun v H2 Hd g hd => ⟨_, tru_dp (dp_ex g.d2 _ _ hd) ok, q H2 g.ex⟩
theorem ev_notB {b : Bool} (h : Ev te σ H (.bl b)) : Ev (tNotT K te) σ H (.bl (!b)) := fun H1 e Q q => h H1 e _ fun H2 e2 => ⟨b, rfl, q H2 e2⟩
/-- a < b < c of ints -/
theorem ev_chain {p q : Int → Int → Bool} {i j k : Int} (ha : EvD K ta σ H (.int i)) (hb : EvD K tb σ H (.int j)) (hc : EvD K tc σ H (.int k)) :
    Ev (tChain (rI0 fun i j => .bl (p i j)) (rI0 fun i j => .bl (q i j)) ta tb tc) σ H (.bl (p i j && q j k)) := fun H1 e Q hq =>
  ev_int ha H1 e _ fun H2 e2 => ev_int hb H2 (e.trans e2) _ fun H3 e3 => ⟨i, j, rfl, rfl, _, rfl, by
    cases hp : p i j with
    | true =>
      show tc σ H3 _
      refine ev_int hc H3 ((e.trans e2).trans e3) _ fun H4 e4 => ⟨j, k, rfl, rfl, ?_⟩
      have := hq H4 ((e2.trans e3).trans e4)
      rw [hp] at this
      exact this
    | false =>
      show Q (.bl false) H3
      have := hq H3 (e2.trans e3)
      rw [hp] at this
      exact this⟩
theorem et_chain {p q : Int → Int → Bool} {i j k : Int} (ha : EvD K ta σ H (.int i)) (hb : EvD K tb σ H (.int j)) (hc : EvD K tc σ H (.int k)) :
    EvT (tTest (tChain (rI0 fun i j => .bl (p i j)) (rI0 fun i j => .bl (q i j)) ta tb tc)) σ H (p i j && q j k) := et_test (ev_chain ha hb hc)
/-- int(flag), int(n) -/
theorem ev_intB {b : Bool} (h : Ev te σ H (.bl b)) : Ev (tCB (fun xs H Q => (∃ i, xs = [.int i] ∧ Q (.int i) H) ∨ ∃ k, xs = [.bl k] ∧ Q (.int (if k then 1 else 0)) H) (tCons te tNil)) σ H (.int (if b then 1 else 0)) := fun H1 e Q q =>
  h H1 e _ fun H2 e2 => .inr ⟨b, rfl, q H2 e2⟩
/-- tuple(list) -/
theorem evd_tupL {ds : List PyData} (h : EvD K te σ H (.list ds)) : EvD K (tCB (rTupU K) (tCons te tNil)) σ H (.tuple ds) := fun H1 e Q q =>
  h H1 e _ fun v H2 A g hd => by
    obtain ⟨a, xs, rfl, hs, hall⟩ := dp_lst hd
    exact ⟨a, xs, rfl, .inl ⟨sq_of (g.d2 _ _ hs), fun l hl => q _ _ _ (g.new _ hl) (.tup (st_of upd_same) (dpAll_ex (Ex.new (fresh_back g.d2 hl)) _ _ hall))⟩⟩
theorem evd_lstT {ds : List PyData} (h : EvD K te σ H (.tuple ds)) : EvD K (tCB (rLstU K) (tCons te tNil)) σ H (.list ds) := fun H1 e Q q =>
  h H1 e _ fun v H2 A g hd => by
    obtain ⟨a, xs, rfl, hs, hall⟩ := dp_tup hd
    exact ⟨a, xs, rfl, .inr (ex_t g.d2 hs), fun l hl => q _ _ _ (g.new _ hl) (.lst upd_same (dpAll_ex (Ex.new (fresh_back g.d2 hl)) _ _ hall))⟩
theorem evd_lstL {ds : List PyData} (h : EvD K te σ H (.list ds)) : EvD K (tCB (rLstU K) (tCons te tNil)) σ H (.list ds) := fun H1 e Q q =>
  h H1 e _ fun v H2 A g hd => by
    obtain ⟨a, xs, rfl, hs, hall⟩ := dp_lst hd
    exact ⟨a, xs, rfl, .inl (sq_of (g.d2 _ _ hs)), fun l hl => q _ _ _ (g.new _ hl) (.lst upd_same (dpAll_ex (Ex.new (fresh_back g.d2 hl)) _ _ hall))⟩
/-- a constant tuple of the module -/
theorem evd_ref {a : Addr} (h : Dt K H (.ref a) d) : EvD K (tC (.ref a)) σ H d := evd_of ev_c h
/-- a comprehension over a text's signs -/
theorem evd_lcS {tl : TE} {tt : TT} {j : Nat} {vs : List Nat} {x : Str} (f : Nat → Bool) (g : Nat → PyData) (h : EvD K tl σ H (.str x)) (hz : x.length ≤ 40000) (hw : ∀ x, wipe ((wipe σ vs).set j (some x)) vs = wipe σ vs)
    (ht : ∀ c H1, Ex H H1 → c ∈ x.cps.toList → EvT tt ((wipe σ vs).set j (some (.str ⟨#[c]⟩))) H1 (f c)) (he : ∀ c H1, Ex H H1 → c ∈ x.cps.toList → f c = true → EvD K te ((wipe σ vs).set j (some (.str ⟨#[c]⟩))) H1 (g c)) :
    EvD K (tLc (iSeq K tl) (gName j) tt te vs) σ H (.list ((x.cps.toList.filter f).map g)) := fun H1 e Q q => by
  refine .inr (.inr (h H1 e _ fun v H2 A gr hd => ⟨x, dp_str hd, fun D hD => ?_⟩))
  have hlen : x.cps.size = x.cps.toList.length := by simp
  have hz2 : x.cps.toList.length ≤ 40000 := by rw [← hlen]; exact hz
  refine ⟨fun i m H' => m = x.cps.size - i ∧ i ≤ x.cps.size ∧ Acc K A H2 D (((x.cps.toList.take i).filter f).map g) H', ⟨x.cps.size, by simp, Nat.zero_le _, Acc.nil gr.d2 hD⟩, ?_⟩
  rintro i m H' ⟨rfl, hi, p⟩
  by_cases hlt : i < x.cps.size
  · refine .inr ⟨hlt, fun H'' => Acc K A H2 D (((x.cps.toList.take (i + 1)).filter f).map g) H'', fun H'' p' => ⟨x.cps.size - (i + 1), by omega, rfl, hlt, p'⟩, ?_⟩
    rintro y H'' ⟨rfl, c, hc, rfl⟩
    have hc2 : x.cps.toList[i]? = some c := by rw [Array.getElem?_toList]; exact hc
    have hm : c ∈ x.cps.toList := List.mem_of_getElem? hc2
    have e1 : ((x.cps.toList.take (i + 1)).filter f).map g = if f c then ((x.cps.toList.take i).filter f).map g ++ [g c] else ((x.cps.toList.take i).filter f).map g := by
      rw [List.take_add_one, hc2, Option.toList, List.filter_append, List.map_append]
      cases q : f c with
      | true => simp [q]
      | false => simp [q]
    refine ⟨hw _, ?_⟩
    rw [e1]
    refine lc_turn gr.d2 hD p ?_ (ht c A gr.xd hm) (fun hf => he c A gr.xd hm hf)
    rw [List.length_map]
    have := List.length_filter_le f (x.cps.toList.take i)
    rw [List.length_take] at this
    omega
  · refine .inl ⟨by show x.cps.size ≤ i; omega, ?_⟩
    have ei : i = x.cps.toList.length := by omega
    subst ei
    rw [List.take_length] at p
    obtain ⟨Hd, g1, g2⟩ := p.done gr.xd gr.fr gr.ex hD
    exact q _ H' Hd g1 g2
end
end LC

namespace LC
open PySem L2 Evl
/-! ### sources: what the defs compute, over plain data -/
def smallS : Str := "abcdefghijklmnopqrstuvwxyz"
def wordsS : List Str := ["add", "less", "times", "over", "same"]
def barredS : List Str := ["add", "less", "times", "over", "same", "if", "set", "show"]
def isWithin (d : PyData) (lo hi : Int) : Bool := match d with
  | .int i => decide (lo ≤ i) && decide (i ≤ hi)
  | _ => false
def nameS (s : Str) : Bool := (decide (1 ≤ s.length) && decide (s.length ≤ 4)) && (!decide (s ∈ barredS) && s.cps.toList.all fun c => decide (c ∈ smallS.cps.toList))
def isName : PyData → Bool
  | .str s => nameS s
  | _ => false
def sumHead (w : Str) (n : Nat) : Bool := decide (w ∈ wordsS) && n == 3 || decide (w = "if") && n == 4
def isSum : Nat → PyData → Bool
  | _, .str s => nameS s
  | n + 1, .tuple (.str w :: r) => sumHead w (r.length + 1) && r.all (isSum n)
  | _, .tuple _ => false
  | _, d => isWithin d 0 9999
def isRow : PyData → Bool
  | .tuple [.str w, a] => decide (w = "show") && isSum 6 a
  | .tuple [.str w, x, a] => decide (w = "set") && (isName x && isSum 6 a)
  | _ => false
def isSource : PyData → Bool
  | .tuple rs => decide (rs.length ≤ 8) && rs.all isRow
  | _ => false
theorem inD_str {s : Str} : ∀ {l : List Str}, inD (.str s) (l.map PyData.str) = decide (s ∈ l)
  | [] => by simp [inD]
  | x :: l => by
    have ih := inD_str (s := s) (l := l)
    show (PyData.eqv (.str x) (.str s) || inD (.str s) (l.map PyData.str)) = decide (s ∈ x :: l)
    rw [ih]
    show ((x == s) || decide (s ∈ l)) = decide (s ∈ x :: l)
    by_cases h : s = x
    · subst h; simp
    · have h2 : (x == s) = false := by simpa using fun z => h z.symm
      rw [h2, Bool.false_or]
      by_cases q : s ∈ l
      · simp [q]
      · simp [q, h]
theorem flat_strs (l : List Str) : (l.map PyData.str).all flatD = true := by
  rw [List.all_map]
  simp [flatD, Function.comp_def]
/-- the shapes of data: what the tests on a sum look at -/
theorem isSum_nontup {n : Nat} {d : PyData} (h1 : isT d "str" = false) (h2 : isT d "tuple" = false) : isSum n d = isWithin d 0 9999 := by
  cases d with
  | str s => simp [isT, tyN] at h1
  | tuple ds => simp [isT, tyN] at h2
  | _ => cases n <;> simp [isSum]
theorem isT_str {d : PyData} (h : isT d "str" = true) : ∃ s, d = .str s := by
  cases d <;> simp [isT, tyN] at h
  exact ⟨_, rfl⟩
theorem isT_tup {d : PyData} (h : isT d "tuple" = true) : ∃ ds, d = .tuple ds := by
  cases d <;> simp [isT, tyN] at h
  exact ⟨_, rfl⟩
theorem within_eq (d : PyData) (lo hi : Int) : (isT d "int" && (!isT d "bool" && isWithin d lo hi)) = isWithin d lo hi := by
  cases d <;> simp [isT, tyN, isWithin]
def F_is_within (ds : List PyData) (d : PyData) : Prop := ∃ x lo hi, ds = [x, .int lo, .int hi] ∧ d = .bool (isWithin x lo hi)
def F_is_name (ds : List PyData) (d : PyData) : Prop := ∃ x, ds = [x] ∧ okD x = true ∧ d = .bool (isName x)
def F_is_sum (n : Nat) (ds : List PyData) (d : PyData) : Prop := ∃ x, ds = [x, .int (n : Int)] ∧ okD x = true ∧ d = .bool (isSum n x)
def F_is_row (ds : List PyData) (d : PyData) : Prop := ∃ x, ds = [x] ∧ okD x = true ∧ d = .bool (isRow x)
def F_is_source (ds : List PyData) (d : PyData) : Prop := ∃ x, ds = [x] ∧ okD x = true ∧ d = .bool (isSource x)
theorem dts1 {K : Frag} {H : Hp} {vs : List V} {a : PyData} (h : DtAll K H vs [a]) : ∃ x, vs = [x] ∧ Dt K H x a := by
  cases h with
  | cons h1 h2 => cases h2; exact ⟨_, rfl, h1⟩
theorem dts2 {K : Frag} {H : Hp} {vs : List V} {a b : PyData} (h : DtAll K H vs [a, b]) : ∃ x y, vs = [x, y] ∧ Dt K H x a ∧ Dt K H y b := by
  cases h with
  | cons h1 h2 =>
    obtain ⟨y, rfl, hy⟩ := dts1 h2
    exact ⟨_, _, rfl, h1, hy⟩
theorem dts3 {K : Frag} {H : Hp} {vs : List V} {a b c : PyData} (h : DtAll K H vs [a, b, c]) : ∃ x y z, vs = [x, y, z] ∧ Dt K H x a ∧ Dt K H y b ∧ Dt K H z c := by
  cases h with
  | cons h1 h2 =>
    obtain ⟨y, z, rfl, hy, hz⟩ := dts2 h2
    exact ⟨_, _, _, rfl, h1, hy, hz⟩
end LC
namespace LC
open PySem L2 Evl
theorem cut_tail (w : PyData) (r : List PyData) : cutD (w :: r) (some 1) none = r := by
  unfold cutD
  have e1 : HT.sIx (w :: r).length 0 (some 1) = 1 := by
    have := HT.sIx_nat (w :: r).length 0 1
    rw [show ((1 : Nat) : Int) = 1 from rfl] at this
    rw [this]
    simp
  rw [e1, HT.sIx_none]
  simp
end LC
namespace LC
open PySem L2 Evl
theorem atI_0 {α : Type} (w : α) (r : List α) : atI (w :: r) 0 = some w := by simp [atI, ixN]
theorem atI_1 {α : Type} (w z : α) (r : List α) : atI (w :: z :: r) 1 = some z := by
  have h : (1 : Int) < ((r.length + 1 + 1 : Nat) : Int) := by omega
  simp [atI, ixN]
  rw [if_pos (by omega)]
  rfl
theorem atI_2 {α : Type} (w z y : α) (r : List α) : atI (w :: z :: y :: r) 2 = some y := by
  simp [atI, ixN]
  rw [if_pos (by omega)]
  rfl
end LC

namespace LC
open PySem PySem.Spec PyProof.Rows L2 Evl
abbrev FnP (K : Frag) (x q : Str) (st : Stmt) (f : Addr) (fd : FuncData) : Prop := FunD K x q (defArgs st) (defBody st) (defScope st) [] [] f fd
section
variable {P : Program} {w : World} {K : Frag} {mg : Str → Option Value} {base : Heap} {x q : Str} {st : Stmt} {f : Addr} {fd : FuncData} {N ps : List Str} {k : Nat}
/-- a def over data -/
theorem has_d {FF : List PyData → PyData → Prop} (F : FnP K x q st f fd) (g : mg x = some (.ref f)) (b : Binds K fd ps []) (S : FnScope N ps (defScope st)) (hl : ∀ ds d, FF ds d → ds.length = ps.length)
    (hbody : ∀ (cdv : Value) (A : Around) (outer : List Env) (s : Shared) (H : Hp) (vs : List V) (Q : VK) (E : XK) (ds : List PyData) (d : PyData) (H0 : Hp), Room k (A.deeper (envOfC q (defScope st) s.heap.objs.size f cdv)) →
      Ex H0 H → DtAll K H0 vs ds → FF ds d → (∀ v H2 Hd, Gr H0 H H2 Hd → Dt K Hd v d → Q v H2) →
      ∃ t, PSs (cxOf CX0 P w K mg base N q (defScope st) f cdv A outer s H E).nox (defBody st) t ∧ t { nx := fun _ H' => Q .non H', rt := Q } (start N vs) H) : Has P w K mg base CX0 (k + 1) x ps (spD K FF) := by
  refine ⟨f, fd, F.ok S (fun vs H Q E h => ?_) (fun cdv A outer s H vs Q E hr h => ?_), b, F.kp, g⟩
  · obtain ⟨ds, d, H0, _, hd, hf, _⟩ := h
    rw [dpAll_len hd]
    exact hl ds d hf
  · obtain ⟨ds, d, H0, e, hd, hf, hq⟩ := h
    obtain ⟨t, ht, r⟩ := hbody cdv A outer s H vs Q E ds d H0 hr e hd hf hq
    exact ⟨t, PSs.nox ht, r⟩
end
end LC
namespace LC
open PySem PySem.Spec PyProof.Rows L2 Evl
section
variable {K : Frag} {H0 H H1 : Hp} {d : PyData} {Q : VK} {σ : L2.St} {t : TT} {tu tw : TS} {D : Ends} {te : TE}
/-- what is wanted of a def's answer -/
abbrev Rt (K : Frag) (H0 H : Hp) (d : PyData) (Q : VK) : Prop := ∀ v H2 Hd, Gr H0 H H2 Hd → Dt K Hd v d → Q v H2
theorem Rt.go (k : Rt K H0 H d Q) (e : Ex H H1) : Rt K H0 H1 d Q := fun v H2 Hd g => k v H2 Hd (g.after e)
theorem s_yes (h : EvT t σ H0 true) (x : Ex H0 H) (k : ∀ H1, Ex H H1 → tu D σ H1) : tIfS t tu tw D σ H := s_ifD h x (fun _ => k) fun z => nomatch z
theorem s_nay (h : EvT t σ H0 false) (x : Ex H0 H) (k : ∀ H1, Ex H H1 → tw D σ H1) : tIfS t tu tw D σ H := s_ifD h x (fun z => nomatch z) fun _ => k
theorem Rt.ret {d' : PyData} (k : Rt K H0 H d D.rt) (x : Ex H0 H) (h : EvD K te σ H0 d') (e : d' = d) : tRet te D σ H := s_retD (evd_is h e) x k
end
section
variable {P : Program} {w : World} {K : Frag} {mg : Str → Option Value} {base : Heap} {x q : Str} {st : Stmt} {f : Addr} {fd : FuncData} {N ps : List Str} {k : Nat} {CX : CXT}
/-- a def that is not called -/
theorem has_never (F : FnP K x q st f fd) (g : mg x = some (.ref f)) (b : Binds K fd ps []) (FF : List PyData → PyData → Prop) (hn : ∀ ds d, ¬ FF ds d) : Has P w K mg base CX k x ps (spD K FF) :=
  ⟨f, fd, ⟨fun vs H Q E h => by
    obtain ⟨ds, d, H0, _, _, hf, _⟩ := h
    exact (hn ds d hf).elim, fun A outer s H args us vs Q E _ _ _ _ h => by
    obtain ⟨ds, d, H0, _, _, hf, _⟩ := h
    exact (hn ds d hf).elim⟩, b, F.kp, g⟩
/-- what a def promises one level less deep -/
def Fprev (F : Nat → List PyData → PyData → Prop) : Nat → List PyData → PyData → Prop
  | 0 => fun _ _ => False
  | n + 1 => F n
end
end LC

namespace LC
open PySem L2 Evl
/-! ### sums, rows, sources as trees -/
inductive Sm where
  | num (i : Int)
  | nm (x : Str)
  | op (w : Str) (a b : Sm)
  | ite (a b c : Sm)
  deriving DecidableEq
inductive Rw where
  | set (x : Str) (s : Sm)
  | shw (s : Sm)
  deriving DecidableEq
abbrev Src := List Rw
def Sm.enc : Sm → PyData
  | .num i => .int i
  | .nm x => .str x
  | .op w a b => .tuple [.str w, a.enc, b.enc]
  | .ite a b c => .tuple [.str "if", a.enc, b.enc, c.enc]
def Rw.enc : Rw → PyData
  | .set x s => .tuple [.str "set", .str x, s.enc]
  | .shw s => .tuple [.str "show", s.enc]
def encS (src : Src) : PyData := .tuple (src.map Rw.enc)
def Sm.depth : Sm → Nat
  | .num _ => 0
  | .nm _ => 0
  | .op _ a b => max a.depth b.depth + 1
  | .ite a b c => max a.depth (max b.depth c.depth) + 1
def Sm.good : Sm → Bool
  | .num i => decide (0 ≤ i) && decide (i ≤ 9999)
  | .nm x => nameS x
  | .op w a b => decide (w ∈ wordsS) && (a.good && b.good)
  | .ite a b c => a.good && (b.good && c.good)
def Rw.sum : Rw → Sm
  | .set _ s => s
  | .shw s => s
def Rw.good : Rw → Bool
  | .set x s => nameS x && (s.good && decide (s.depth ≤ 6))
  | .shw s => s.good && decide (s.depth ≤ 6)
def goodS (src : Src) : Bool := decide (src.length ≤ 8) && src.all Rw.good
theorem noIf : ¬ (("if" : Str) ∈ wordsS) := by decide +kernel
theorem isSum_enc : ∀ (s : Sm) (n : Nat), s.good = true → s.depth ≤ n → isSum n s.enc = true
  | .num i, n, h, _ => by
    have h : (decide (0 ≤ i) && decide (i ≤ 9999)) = true := h
    cases n <;> exact h
  | .nm x, n, h, _ => by cases n <;> exact h
  | .op w a b, n, h, hd => by
    have h : (decide (w ∈ wordsS) && (a.good && b.good)) = true := h
    simp only [Bool.and_eq_true] at h
    have hd : max a.depth b.depth + 1 ≤ n := hd
    cases n with
    | zero => omega
    | succ n =>
      show (sumHead w 3 && [a.enc, b.enc].all (isSum n)) = true
      have e : sumHead w 3 = true := by
        unfold sumHead
        rw [h.1]
        rfl
      rw [e, Bool.true_and]
      simp only [List.all_cons, List.all_nil, Bool.and_true, Bool.and_eq_true]
      exact ⟨isSum_enc a n h.2.1 (by omega), isSum_enc b n h.2.2 (by omega)⟩
  | .ite a b c, n, h, hd => by
    have h : (a.good && (b.good && c.good)) = true := h
    simp only [Bool.and_eq_true] at h
    have hd : max a.depth (max b.depth c.depth) + 1 ≤ n := hd
    cases n with
    | zero => omega
    | succ n =>
      show (sumHead "if" 4 && [a.enc, b.enc, c.enc].all (isSum n)) = true
      have e : sumHead "if" 4 = true := by decide +kernel
      rw [e, Bool.true_and]
      simp only [List.all_cons, List.all_nil, Bool.and_true, Bool.and_eq_true]
      exact ⟨isSum_enc a n h.1 (by omega), isSum_enc b n h.2.1 (by omega), isSum_enc c n h.2.2 (by omega)⟩
theorem isRow_enc (r : Rw) (h : r.good = true) : isRow r.enc = true := by
  cases r with
  | set x s =>
    have h : (nameS x && (s.good && decide (s.depth ≤ 6))) = true := h
    simp only [Bool.and_eq_true, decide_eq_true_eq] at h
    show (decide (("set" : Str) = "set") && (isName (.str x) && isSum 6 s.enc)) = true
    rw [isSum_enc s 6 h.2.1 h.2.2]
    show (decide (("set" : Str) = "set") && (nameS x && true)) = true
    rw [h.1]
    decide
  | shw s =>
    have h : (s.good && decide (s.depth ≤ 6)) = true := h
    simp only [Bool.and_eq_true, decide_eq_true_eq] at h
    show (decide (("show" : Str) = "show") && isSum 6 s.enc) = true
    rw [isSum_enc s 6 h.1 h.2]
    decide
theorem isSource_enc (src : Src) (h : goodS src = true) : isSource (encS src) = true := by
  unfold goodS at h
  simp only [Bool.and_eq_true, decide_eq_true_eq, List.all_eq_true] at h
  show (decide ((src.map Rw.enc).length ≤ 8) && (src.map Rw.enc).all isRow) = true
  rw [List.length_map, List.all_map]
  simp only [Bool.and_eq_true, decide_eq_true_eq, List.all_eq_true]
  exact ⟨h.1, fun r hr => isRow_enc r (h.2 r hr)⟩
/-! names are short and plain -/
theorem sm_small {c : Nat} (h : c ∈ smallS.cps.toList) : c < 128 := by
  have q : smallS.cps.toList.all (fun c => decide (c < 128)) = true := by decide +kernel
  exact of_decide_eq_true (List.all_eq_true.mp q c h)
theorem ok_of_name {x : Str} (h : nameS x = true) : okD (.str x) = true := by
  unfold nameS at h
  simp only [Bool.and_eq_true, decide_eq_true_eq, List.all_eq_true] at h
  unfold okD PyData.strOk
  rw [Bool.and_eq_true, Array.all_eq_true']
  refine ⟨decide_eq_true (by omega), fun c hc => decide_eq_true ?_⟩
  have := sm_small (h.2.2 c (Array.mem_def.mp hc))
  omega
theorem ok_word {w : Str} (h : w ∈ wordsS) : okD (.str w) = true := by
  have q : wordsS.all (fun w => okD (.str w)) = true := by decide +kernel
  exact List.all_eq_true.mp q w h
theorem ok_if : okD (.str "if") = true := by decide +kernel
theorem ok_set : okD (.str "set") = true := by decide +kernel
theorem ok_show : okD (.str "show") = true := by decide +kernel
theorem ok_int (i : Int) : okD (.int i) = true := rfl
theorem ok_sum : ∀ (s : Sm), s.good = true → okD s.enc = true
  | .num i, _ => rfl
  | .nm x, h => ok_of_name h
  | .op w a b, h => by
    have h : (decide (w ∈ wordsS) && (a.good && b.good)) = true := h
    simp only [Bool.and_eq_true, decide_eq_true_eq] at h
    refine ok_tup_of fun d hd => ?_
    simp only [List.mem_cons, List.not_mem_nil, or_false] at hd
    rcases hd with rfl | rfl | rfl
    · exact ok_word h.1
    · exact ok_sum a h.2.1
    · exact ok_sum b h.2.2
  | .ite a b c, h => by
    have h : (a.good && (b.good && c.good)) = true := h
    simp only [Bool.and_eq_true] at h
    refine ok_tup_of fun d hd => ?_
    simp only [List.mem_cons, List.not_mem_nil, or_false] at hd
    rcases hd with rfl | rfl | rfl | rfl
    · exact ok_if
    · exact ok_sum a h.1
    · exact ok_sum b h.2.1
    · exact ok_sum c h.2.2
theorem Rw.good_sum {r : Rw} (h : r.good = true) : r.sum.good = true ∧ r.sum.depth ≤ 6 := by
  cases r with
  | set x s =>
    have h : (nameS x && (s.good && decide (s.depth ≤ 6))) = true := h
    simp only [Bool.and_eq_true, decide_eq_true_eq] at h
    exact h.2
  | shw s =>
    have h : (s.good && decide (s.depth ≤ 6)) = true := h
    simp only [Bool.and_eq_true, decide_eq_true_eq] at h
    exact h
theorem ok_row (r : Rw) (h : r.good = true) : okD r.enc = true := by
  cases r with
  | set x s =>
    have h : (nameS x && (s.good && decide (s.depth ≤ 6))) = true := h
    simp only [Bool.and_eq_true, decide_eq_true_eq] at h
    refine ok_tup_of fun d hd => ?_
    simp only [List.mem_cons, List.not_mem_nil, or_false] at hd
    rcases hd with rfl | rfl | rfl
    · exact ok_set
    · exact ok_of_name h.1
    · exact ok_sum s h.2.1
  | shw s =>
    have h : (s.good && decide (s.depth ≤ 6)) = true := h
    simp only [Bool.and_eq_true, decide_eq_true_eq] at h
    refine ok_tup_of fun d hd => ?_
    simp only [List.mem_cons, List.not_mem_nil, or_false] at hd
    rcases hd with rfl | rfl
    · exact ok_show
    · exact ok_sum s h.1
theorem goodS_row {src : Src} (h : goodS src = true) {r : Rw} (hr : r ∈ src) : r.good = true := by
  unfold goodS at h
  simp only [Bool.and_eq_true, List.all_eq_true] at h
  exact h.2 r hr
theorem goodS_len {src : Src} (h : goodS src = true) : src.length ≤ 8 := by
  unfold goodS at h
  simp only [Bool.and_eq_true, decide_eq_true_eq] at h
  exact h.1
theorem ok_src (src : Src) (h : goodS src = true) : okD (encS src) = true := by
  refine ok_tup_of fun d hd => ?_
  obtain ⟨r, hr, rfl⟩ := List.mem_map.mp hd
  exact ok_row r (goodS_row h hr)
/-! names in sums; what a source sets and reads -/
def Sm.names : Sm → List Str
  | .num _ => []
  | .nm x => [x]
  | .op _ a b => a.names ++ b.names
  | .ite a b c => a.names ++ (b.names ++ c.names)
def Rw.sets : Rw → List Str
  | .set x _ => [x]
  | .shw _ => []
def setsOf (src : Src) : List Str := src.flatMap Rw.sets
/-- found, mine -/
def readsGo (acc : List Str × List Str) (r : Rw) : List Str × List Str :=
  (r.sum.names.foldl (fun f x => if x ∈ acc.2 ∨ x ∈ f then f else f ++ [x]) acc.1, acc.2 ++ r.sets)
def readsOf (src : Src) : List Str := (src.foldl readsGo ([], [])).1
theorem names_len : ∀ (s : Sm), s.names.length ≤ 3 ^ s.depth
  | .num _ => by simp [Sm.names]
  | .nm _ => by simp [Sm.names, Sm.depth]
  | .op w a b => by
    have h1 := names_len a
    have h2 := names_len b
    show (a.names ++ b.names).length ≤ 3 ^ (max a.depth b.depth + 1)
    rw [List.length_append, Nat.pow_succ]
    have m1 : 3 ^ a.depth ≤ 3 ^ max a.depth b.depth := Nat.pow_le_pow_right (by omega) (by omega)
    have m2 : 3 ^ b.depth ≤ 3 ^ max a.depth b.depth := Nat.pow_le_pow_right (by omega) (by omega)
    omega
  | .ite a b c => by
    have h1 := names_len a
    have h2 := names_len b
    have h3 := names_len c
    show (a.names ++ (b.names ++ c.names)).length ≤ 3 ^ (max a.depth (max b.depth c.depth) + 1)
    rw [List.length_append, List.length_append, Nat.pow_succ]
    have m1 : 3 ^ a.depth ≤ 3 ^ max a.depth (max b.depth c.depth) := Nat.pow_le_pow_right (by omega) (by omega)
    have m2 : 3 ^ b.depth ≤ 3 ^ max a.depth (max b.depth c.depth) := Nat.pow_le_pow_right (by omega) (by omega)
    have m3 : 3 ^ c.depth ≤ 3 ^ max a.depth (max b.depth c.depth) := Nat.pow_le_pow_right (by omega) (by omega)
    omega
end LC

namespace LC
open PySem PySem.Spec PyProof.Rows L2 Evl
/-! ### statements over data: a list that grows, a for over a tuple -/
section
variable {K : Frag} {A H Hs H' : Hp} {p : Addr} {out ds : List PyData} {d : PyData} {σ : L2.St} {te tl : TE} {i : Nat} {D : Ends} {g : TG} {tu : TS}
theorem s_new {ta : TA} (h : EvDs K ta σ A []) (x : Ex A H) (k : ∀ p H1, H p = none → Acc K A H p [] H1 → D.nx (σ.set i (some (.ref p))) H1) : tAsg (tLst ta) (gName i) D σ H := h H x _ fun vs H2 Hd gr hd => by
  cases hd
  exact ⟨Nat.zero_le _, fun p hp => k p _ (fresh_back gr.ex hp) (Acc.start x (gr.ex.trans (Ex.new hp)) (fresh_back gr.ex hp) upd_same)⟩
theorem s_ext (hs : σ[i]? = some (some (.ref p))) (a : Acc K A Hs p out H) (hA : A p = none) (hD : Hs p = none) (h : EvD K te σ A (.list ds)) (hl : out.length + ds.length ≤ 100000)
    (k : ∀ H', Acc K A Hs p (out ++ ds) H' → (∀ Hd, Ex Hd H → Hd p = none → Ex Hd H') → D.nx σ H') : tDrop (tBM K "list" rExtend (tVar i) (tCons te tNil)) D σ H := by
  obtain ⟨acc, h1, h2⟩ := a.at
  refine ⟨.ref p, hs, .inl ⟨rfl, acc, sq_of h1⟩, h H a.base _ fun v H2 C gr hd => ?_⟩
  obtain ⟨b, zs, rfl, hb, hall⟩ := dp_lst hd
  obtain ⟨acc', e1, e2, e3⟩ := a.push' hA hD gr hall
  exact ⟨p, b, acc', zs, rfl, rfl, e1, gr.d2 _ _ hb, by rw [e2, dpAll_len hall]; exact sz_of hl, k _ e3 fun Hd x n => ex_upd (x.trans gr.ex) n⟩
theorem s_app (hs : σ[i]? = some (some (.ref p))) (a : Acc K A Hs p out H) (hA : A p = none) (hD : Hs p = none) (h : EvD K te σ A d) (hl : out.length < 100000)
    (k : ∀ H', Acc K A Hs p (out ++ [d]) H' → (∀ Hd, Ex Hd H → Hd p = none → Ex Hd H') → D.nx σ H') : tDrop (tBM K "list" rAppend (tVar i) (tCons te tNil)) D σ H := by
  obtain ⟨acc, h1, h2⟩ := a.at
  refine ⟨.ref p, hs, .inl ⟨rfl, acc, sq_of h1⟩, h H a.base _ fun v H2 C gr hd => ?_⟩
  obtain ⟨acc', e1, e2, e3⟩ := a.push hA hD gr hd
  exact ⟨p, acc', v, rfl, rfl, e1, sz_lt (by omega), k _ e3 fun Hd x n => ex_upd (x.trans gr.ex) n⟩
/-- the list that was filled, as data -/
theorem Acc.var (a : Acc K A Hs p out H) : ∃ Hd, Ex Hd H ∧ Dt K Hd (.ref p) (.list out) := by
  obtain ⟨x, B, acc, h1, h2, h3, h4, h5, h6⟩ := a
  refine ⟨upd B p (.lst acc), fun b u q => ?_, .lst upd_same (dpAll_ex (Ex.new h4) _ _ h6)⟩
  by_cases e : b = p
  · subst e
    rw [upd_same] at q
    cases q
    exact h1
  · rw [upd_ne e] at q
    exact h3 b u q
theorem Acc.here (a : Acc K A Hs p out H) : Dt K H (.ref p) (.list out) := by
  obtain ⟨Hd, x, h⟩ := a.var
  exact dp_ex x _ _ h
theorem s_forT (h : EvD K tl σ A (.tuple ds)) (x : Ex A H)
    (k : ∀ H1 Hd, Gr A H H1 Hd → ∃ Pv : Nat → L2.St → Hp → Prop, Pv 0 σ H1 ∧ (∀ i σ' H', Pv i σ' H' → Ex Hd H') ∧
      (∀ i v d σ' H', ds[i]? = some d → Dt K Hd v d → Pv i σ' H' → g v σ' H' fun σ2 H2 => tu { D with nx := Pv (i + 1), ct := Pv (i + 1), bk := D.nx } σ2 H2) ∧ ∀ σ' H', Pv ds.length σ' H' → D.nx σ' H') : tFor (iSeq K tl) g tu D σ H := by
  refine .inr (.inl (h H x _ fun v H1 Hd gr hd => ?_))
  obtain ⟨a, xs, rfl, hs, hall⟩ := dp_tup hd
  obtain ⟨Pv, p0, pb, ps, pe⟩ := k H1 Hd gr
  refine ⟨a, rfl, ⟨xs, ex_t gr.d2 hs⟩, for_tup (K := K) (a := a) (xs := xs) Pv p0 (fun i σ' H' _ q => ex_t (pb i σ' H' q) hs) (fun i y σ' H' hi q => ?_) fun σ' H' q => pe σ' H' (by rw [← dpAll_len hall]; exact q)⟩
  obtain ⟨d, hdi, hx⟩ := dpAll_of hall hi
  exact ps i y d σ' H' hdi hx q
theorem s_forL (h : EvD K tl σ A (.list ds)) (x : Ex A H)
    (k : ∀ H1 Hd, Gr A H H1 Hd → ∃ Pv : Nat → L2.St → Hp → Prop, Pv 0 σ H1 ∧ (∀ i σ' H', Pv i σ' H' → Ex Hd H') ∧
      (∀ i v d σ' H', ds[i]? = some d → Dt K Hd v d → Pv i σ' H' → g v σ' H' fun σ2 H2 => tu { D with nx := Pv (i + 1), ct := Pv (i + 1), bk := D.nx } σ2 H2) ∧ ∀ σ' H', Pv ds.length σ' H' → D.nx σ' H') : tFor (iSeq K tl) g tu D σ H := by
  refine .inl (h H x _ fun v H1 Hd gr hd => ?_)
  obtain ⟨a, xs, rfl, hs, hall⟩ := dp_lst hd
  obtain ⟨Pv, p0, pb, ps, pe⟩ := k H1 Hd gr
  refine ⟨a, rfl, ⟨xs, sq_of (gr.d2 _ _ hs)⟩, for_list (K := K) (a := a) (xs := xs) Pv p0 (fun i σ' H' _ q => sq_of (pb i σ' H' q _ _ hs)) (fun i y σ' H' hi q => ?_) fun σ' H' q => pe σ' H' (by rw [← dpAll_len hall]; exact q)⟩
  obtain ⟨d, hdi, hx⟩ := dpAll_of hall hi
  exact ps i y d σ' H' hdi hx q
end
def F_names_in (n : Nat) (ds : List PyData) (d : PyData) : Prop := ∃ s : Sm, ds = [s.enc] ∧ s.depth ≤ n ∧ s.depth ≤ 6 ∧ d = .list (s.names.map PyData.str)
def F_sets_of (ds : List PyData) (d : PyData) : Prop := ∃ src : Src, ds = [encS src] ∧ goodS src = true ∧ d = .list ((setsOf src).map PyData.str)
def F_reads_of (ds : List PyData) (d : PyData) : Prop := ∃ src : Src, ds = [encS src] ∧ goodS src = true ∧ d = .list ((readsOf src).map PyData.str)
def Sm.parts : Sm → List Sm
  | .op _ a b => [a, b]
  | .ite a b c => [a, b, c]
  | _ => []
theorem Sm.names_parts (s : Sm) (h : isT s.enc "str" = false) : s.names = s.parts.flatMap Sm.names := by
  cases s with
  | num i => rfl
  | nm x => simp [Sm.enc, isT, tyN] at h
  | op w a b => simp [Sm.names, Sm.parts]
  | ite a b c => simp [Sm.names, Sm.parts]
theorem Sm.enc_parts (s : Sm) (h : isT s.enc "tuple" = true) : ∃ w, s.enc = .tuple (.str w :: s.parts.map Sm.enc) := by
  cases s with
  | num i => simp [Sm.enc, isT, tyN] at h
  | nm x => simp [Sm.enc, isT, tyN] at h
  | op w a b => exact ⟨w, rfl⟩
  | ite a b c => exact ⟨"if", rfl⟩
theorem Sm.parts_depth {s q : Sm} (h : q ∈ s.parts) : q.depth < s.depth := by
  cases s with
  | num i => cases h
  | nm x => cases h
  | op w a b =>
    simp only [Sm.parts, List.mem_cons, List.not_mem_nil, or_false] at h
    show q.depth < max a.depth b.depth + 1
    rcases h with rfl | rfl <;> omega
  | ite a b c =>
    simp only [Sm.parts, List.mem_cons, List.not_mem_nil, or_false] at h
    show q.depth < max a.depth (max b.depth c.depth) + 1
    rcases h with rfl | rfl | rfl <;> omega
end LC
namespace LC
open PySem PySem.Spec PyProof.Rows L2 Evl
theorem Acc.ret {K : Frag} {A H0 H Hs H' : Hp} {p : Addr} {out : List PyData} {d : PyData} {Q : VK} (k : Rt K H0 H d Q) (a : Acc K A Hs p out H') (xd : Ex H0 A) (fr : ∀ a, H0 a = none → H a ≠ none → A a = none) (ex : Ex H Hs) (hD : Hs p = none) (e : PyData.list out = d) : Q (.ref p) H' := by
  obtain ⟨Hd, g1, g2⟩ := a.done xd fr ex hD
  rw [e] at g2
  exact k _ H' Hd g1 g2
theorem take_flat {α β : Type} (f : α → List β) {l : List α} {i : Nat} {a : α} (h : l[i]? = some a) : (l.take (i + 1)).flatMap f = (l.take i).flatMap f ++ f a := by
  rw [List.take_add_one, h, Option.toList, List.flatMap_append]
  simp
theorem flat_take_len {α β : Type} (f : α → List β) (l : List α) (i : Nat) : ((l.take i).flatMap f).length ≤ (l.flatMap f).length := by
  have e := List.take_append_drop i l
  have : (l.flatMap f).length = ((l.take i).flatMap f).length + ((l.drop i).flatMap f).length := by
    rw [← List.length_append, ← List.flatMap_append, e]
  omega
end LC

namespace LC
open PySem PySem.Spec PyProof.Rows L2 Evl
theorem dt_strs {K : Frag} {H : Hp} : ∀ (l : List Str), DtAll K H (l.map V.str) (l.map PyData.str)
  | [] => .nil
  | x :: l => .cons (.str x) (dt_strs l)
theorem dt_ints {K : Frag} {H : Hp} : ∀ (l : List Int), DtAll K H (l.map V.int) (l.map PyData.int)
  | [] => .nil
  | x :: l => .cons (.int x) (dt_ints l)
/-- a new list of flat things is handed back -/
theorem flat_ret {K : Frag} {H0 H H' : Hp} {p : Addr} {xs : List V} {d : PyData} {ds : List PyData} {Q : VK} (k : Rt K H0 H d Q) (x : Ex H0 H) (ex : Ex H H') (hp : H p = none) (h : H' p = some (.lst xs)) (fl : DtAll K H0 xs ds) (e : PyData.list ds = d) : Q (.ref p) H' := by
  have hp0 : H0 p = none := fresh_back x hp
  refine k _ H' (upd H0 p (.lst xs)) ⟨ex, Ex.new hp0, fun a u q => ?_, fun a h0 h1 => ?_⟩ (e ▸ .lst upd_same (dpAll_ex (Ex.new hp0) _ _ fl))
  · by_cases z : a = p
    · subst z
      rw [upd_same] at q
      cases q
      exact h
    · rw [upd_ne z] at q
      exact ex a u (x a u q)
  · rw [upd_ne fun z => h1 (by rw [z]; exact hp)]
    exact h0
/-! rows by their places -/
def isSetD : PyData → Bool
  | .tuple (.str w :: _) => w == "set"
  | _ => false
def secondD : PyData → PyData
  | .tuple (_ :: x :: _) => x
  | d => d
theorem sets_data (src : Src) : ((src.map Rw.enc).filter isSetD).map secondD = (setsOf src).map PyData.str := by
  induction src with
  | nil => rfl
  | cons r src ih =>
    cases r with
    | set x s =>
      show (((Rw.set x s).enc :: src.map Rw.enc).filter isSetD).map secondD = ((Rw.set x s).sets ++ setsOf src).map PyData.str
      rw [List.filter_cons, if_pos (by rfl)]
      show PyData.str x :: _ = PyData.str x :: _
      rw [ih]
      rfl
    | shw s =>
      show (((Rw.shw s).enc :: src.map Rw.enc).filter isSetD).map secondD = ((Rw.shw s).sets ++ setsOf src).map PyData.str
      rw [List.filter_cons, if_neg (by show ¬ (("show" : Str) == "set") = true; decide +kernel)]
      exact ih
section
variable {K : Frag} {σ : L2.St} {H : Hp} {te : TE} {r : Rw}
/-- row[0] == "set" -/
theorem ev_isSet (h : EvD K te σ H r.enc) : Ev (tOp (rEqD K) (tOp (rIx K) te (tC (.int 0))) (tC (.str "set"))) σ H (.bl (isSetD r.enc)) := by
  cases r with
  | set x s => exact ev_is (ev_eq (evd_ixT (d := .str "set") h evd_int (atI_0 _ _)) evd_str (by decide +kernel) (by decide +kernel)) rfl
  | shw s => exact ev_is (ev_eq (evd_ixT (d := .str "show") h evd_int (atI_0 _ _)) evd_str (by decide +kernel) (by decide +kernel)) rfl
/-- row[-1] -/
theorem evd_last (h : EvD K te σ H r.enc) : EvD K (tOp (rIx K) te (tUn (rU fun i => .int (-i)) (tC (.int 1)))) σ H r.sum.enc := by
  have m1 : EvD K (tUn (rU fun i => .int (-i)) (tC (.int 1))) σ H (.int (-1)) := evd_i (ev_un (x := .int 1) ev_c ru_neg)
  cases r with
  | set x s => exact evd_ixT h m1 (atI_last [.str "set", .str x] s.enc)
  | shw s => exact evd_ixT h m1 (atI_last [.str "show"] s.enc)
/-- row[1] of a row that sets -/
theorem evd_setName {x : Str} {s : Sm} (h : EvD K te σ H (Rw.set x s).enc) : EvD K (tOp (rIx K) te (tC (.int 1))) σ H (.str x) := evd_ixT h evd_int (atI_1 _ _ _)
end
theorem isSetD_set (x : Str) (s : Sm) : isSetD (Rw.set x s).enc = true := rfl
theorem isSetD_shw (s : Sm) : isSetD (Rw.shw s).enc = false := by
  show (("show" : Str) == "set") = false
  decide +kernel
def addName (ms : List Str) (f : List Str) (x : Str) : List Str := if x ∈ ms ∨ x ∈ f then f else f ++ [x]
theorem addName_len (ms f : List Str) (x : Str) : (addName ms f x).length ≤ f.length + 1 := by
  unfold addName
  split <;> simp
theorem foldl_addName_len (ms : List Str) : ∀ (l f : List Str), (l.foldl (addName ms) f).length ≤ f.length + l.length
  | [], f => by simp
  | x :: l, f => by
    have := foldl_addName_len ms l (addName ms f x)
    have := addName_len ms f x
    simp only [List.foldl_cons, List.length_cons]
    omega
theorem readsGo_eq (acc : List Str × List Str) (r : Rw) : readsGo acc r = (r.sum.names.foldl (addName acc.2) acc.1, acc.2 ++ r.sets) := rfl
theorem reads_len (src : Src) (h : ∀ r ∈ src, r.good = true) : ∀ acc : List Str × List Str, (src.foldl readsGo acc).1.length ≤ acc.1.length + 729 * src.length := by
  induction src with
  | nil => intro acc; simp
  | cons r src ih =>
    intro acc
    have h1 := ih (fun q hq => h q (List.mem_cons_of_mem _ hq)) (readsGo acc r)
    have h2 := foldl_addName_len acc.2 r.sum.names acc.1
    have g := Rw.good_sum (h r (List.mem_cons_self ..))
    have h3 : r.sum.names.length ≤ 729 := Nat.le_trans (names_len _) (Nat.le_trans (Nat.pow_le_pow_right (by omega) g.2) (by decide))
    rw [List.foldl_cons, List.length_cons]
    rw [readsGo_eq] at h1 ⊢
    simp only at h1
    omega
theorem take_foldl {α β : Type} (f : β → α → β) {l : List α} {i : Nat} {a : α} (h : l[i]? = some a) (b : β) : (l.take (i + 1)).foldl f b = f ((l.take i).foldl f b) a := by
  rw [List.take_add_one, h, Option.toList, List.foldl_append] <;> rfl
theorem inD_strs (x : Str) (l : List Str) : inD (.str x) (l.map PyData.str) = decide (x ∈ l) := inD_str
theorem mine_len (src : Src) : ∀ acc : List Str × List Str, (src.foldl readsGo acc).2.length ≤ acc.2.length + src.length := by
  induction src with
  | nil => intro acc; simp
  | cons r src ih =>
    intro acc
    have h1 := ih (readsGo acc r)
    rw [List.foldl_cons, List.length_cons]
    rw [readsGo_eq] at h1 ⊢
    simp only [List.length_append] at h1
    have : r.sets.length ≤ 1 := by cases r <;> simp [Rw.sets]
    omega
end LC

namespace LC
open PySem PySem.Spec PyProof.Rows L2
/-! ### sets of ints and texts, walked: over HandS.Set's own, with both kinds of keys -/
def kOf (e : Int × Value) : Key := match e.2 with
  | .int k _ => .inl k
  | .str x _ => .inr x
  | _ => .inl 0
def GoodQ (w : World) (e : Int × Value) : Prop := (∃ k tk, e.2 = Value.int k tk ∧ e.1 = hashInt k) ∨ ∃ x tk, e.2 = Value.str x tk ∧ e.1 = hashStr w x
/-- the keys L stand in the set at a; it can be walked -/
def SetQ (w : World) (h : Heap) (a : Addr) (L : List Key) : Prop := ∃ o es ep t, h.get? a = some o ∧ o.ExactSet ∧ o.data = .set es ep t ∧ (∀ e ∈ es.toList, GoodQ w e) ∧ (es.toList.map kOf).Perm L ∧ L.Nodup ∧
  es.size < scanBound ∧ t.fits es.size = true ∧ Ris t.place.toList ∧ (w.params.followText "set-order" = true ∨ t.led = true)
open Classical in
noncomputable def addK (L : List Key) (k : Key) : List Key := if k ∈ L then L else k :: L
section
variable {P : Program} {w : World} {A : Around} {E : Value → Shared → Prop} {s : Shared} {a : Addr} {L : List Key} {k : Key} {u : Value}
theorem goodQ_elems {l : List (Int × Value)} (gq : ∀ e ∈ l, GoodQ w e) : ElemsOf (mixKind P w) l := fun e he => by
  rcases gq e he with ⟨k, tk, h1, h2⟩ | ⟨x, tk, h1, h2⟩
  · exact ⟨⟨.inl k, by rw [h1]; exact keyIs_int k tk, h2⟩, by rw [h1] <;> rfl⟩
  · exact ⟨⟨.inr x, by rw [h1]; exact keyIs_str x tk, h2⟩, by rw [h1] <;> rfl⟩
theorem goodQ_is {e : Int × Value} (gq : GoodQ w e) (k : Key) : (mixKind P w).is k e.2 = true ↔ kOf e = k := by
  unfold kOf
  rcases gq with ⟨j, tk, h1, _⟩ | ⟨x, tk, h1, _⟩
  · rw [h1]
    cases k with
    | inl i =>
      show ((j == i) = true) ↔ (Sum.inl j : Key) = Sum.inl i
      simp
    | inr y =>
      show (Value.isStrOf y (Value.int j tk) = true) ↔ (Sum.inl j : Key) = Sum.inr y
      simp [Value.isStrOf]
  · rw [h1]
    cases k with
    | inl i =>
      show (Value.isInt i (Value.str x tk) = true) ↔ (Sum.inr x : Key) = Sum.inl i
      simp [Value.isInt]
    | inr y =>
      show (Value.isStrOf y (Value.str x tk) = true) ↔ (Sum.inr x : Key) = Sum.inr y
      simp [Value.isStrOf]
theorem goodQ_mem {l : List (Int × Value)} (gq : ∀ e ∈ l, GoodQ w e) (k : Key) : k ∈ l.map kOf ↔ ∃ e ∈ l, (mixKind P w).is k e.2 = true := by
  rw [List.mem_map]
  exact ⟨fun ⟨e, he, q⟩ => ⟨e, he, (goodQ_is (gq e he) k).2 q⟩, fun ⟨e, he, q⟩ => ⟨e, he, (goodQ_is (gq e he) k).1 q⟩⟩
theorem setQ_tail {g : Bool → Sem Unit} (hg : ∀ (b : Bool) (s₁ : Shared) (Q' : Unit → Shared → Prop), Q' () s₁ → wpAny (model P w) A (g b) Q' E s₁)
    {o : Obj} {es : Array (Int × Value)} {ep : Nat} {t : SetTable} (ob : s.heap.get? a = some o) (oe : o.ExactSet) (od : o.data = .set es ep t)
    {xs : Array (Int × Value)} {t2 : SetTable} (gq : ∀ e ∈ xs.toList, GoodQ w e) (pm0 : (xs.toList.map kOf).Perm L) (nd : L.Nodup)
    (few : xs.size < scanBound) (fit : t2.fits xs.size = true) (ri : Ris t2.place.toList) (le : w.params.followText "set-order" = true ∨ t2.led = true) {wasDummy : Bool} {R : Option Bool → Shared → Prop}
    (hR : ∀ h', Heap.SameBut a s.heap h' → SetQ w h' a L → R (some true) { s with heap := h' }) :
    wpAny (model P w) A (do
        storeSet a xs t2
        if (!wasDummy && t2.tooFull) = true then do
            g (relayAll t2 xs (SetTable.grown xs.size)).2.2
            storeSet a (relayAll t2 xs (SetTable.grown xs.size)).1 (relayAll t2 xs (SetTable.grown xs.size)).2.1
            pure (some true)
          else pure (some true)) R E s := by
  refine wpAny_bind (wpAny_storeSet_of ob od ?_ (fits_of_scanBound few))
  have ob1 := store_at (es' := xs) (t' := t2) ob od
  have sm1 := Heap.SameBut.update s.heap a (Obj.putSet xs t2)
  split
  · have pm := relayAll_perm t2 xs (SetTable.grown xs.size)
    have f3 := relayAll_fits t2 xs (SetTable.grown xs.size)
    have r3 := relayAll_ris t2 xs (SetTable.grown xs.size)
    have l3 := relayAll_led t2 xs (SetTable.grown xs.size)
    generalize relayAll t2 xs (SetTable.grown xs.size) = Z at pm f3 r3 l3 ⊢
    obtain ⟨ys, t3, gave⟩ := Z
    dsimp only at pm f3 r3 l3 ⊢
    have sz : ys.size = xs.size := by rw [← Array.length_toList, pm.length_eq, Array.length_toList]
    have few2 : ys.size < scanBound := by rw [sz]; exact few
    refine wpAny_bind (hg _ _ _ (wpAny_bind (wpAny_storeSet_of ob1 rfl ?_ (fits_of_scanBound few2))))
    have ob2 := store_at (es' := ys) (t' := t3) ob1 rfl
    exact wpAny_pure (hR _ (sm1.trans (Heap.SameBut.update _ a _)) ⟨_, ys, _, t3, ob2, oe, rfl, fun e he => gq e (pm.mem_iff.mp he), (pm.map kOf).trans pm0, nd, few2, f3, r3, le.imp id fun z => by rw [l3]; exact z⟩)
  · exact wpAny_pure (hR _ sm1 ⟨_, xs, _, t2, ob1, oe, rfl, gq, pm0, nd, few, fit, ri, le⟩)
theorem kV_good {w : World} (r : RelV (kV k) u) : GoodQ w ((mixKind P w).hash k, u) ∧ kOf ((mixKind P w).hash k, u) = k ∧ u.scannable = true := by
  cases k with
  | inl i =>
    obtain ⟨t, rfl⟩ := r
    exact ⟨.inl ⟨i, t, rfl, rfl⟩, rfl, rfl⟩
  | inr x =>
    obtain ⟨t, rfl⟩ := r
    exact ⟨.inr ⟨x, t, rfl, rfl⟩, rfl, rfl⟩
theorem setQ_hashed {Q : Bool → Shared → Prop} (R : SetQ w s.heap a L) (rk : RelV (kV k) u) (room : L.length + 1 < scanBound) (hQ : ∀ h' b, Heap.SameBut a s.heap h' → SetQ w h' a (addK L k) → Q b { s with heap := h' }) :
    wpAny (model P w) A (setAddHashed a u ((mixKind P w).hash k)) Q E s := by
  obtain ⟨o, es, ep, t, ob, oe, od, gq, pm0, nd, few, fit, ri, le⟩ := R
  obtain ⟨gu, eu, su⟩ := kV_good (P := P) (w := w) rk
  have hkey : (mixKind P w).is k u = true := kV_is rk
  have els : ElemsOf (mixKind P w) es.toList := goodQ_elems gq
  unfold setAddHashed setAddHashedIn
  refine wpAny_holding (wpAny_bind (wpAny_setState_of ob od fit ?_))
  dsimp only
  rw [byScan_of su few els]
  simp only [↓reduceIte]
  unfold setAddByScan
  refine wpAny_bind (wpAny_bind (wpAny_rule (wpAny_bind (wpAny_setScan_of hkey ob od fit els ?_))))
  cases fi : List.findIdx? (fun e => (mixKind P w).is k e.2) es.toList with
  | some j =>
    dsimp only
    obtain ⟨hj, pj, _⟩ := List.findIdx?_eq_some_iff_getElem.mp fi
    have inL : k ∈ L := pm0.mem_iff.mp ((goodQ_mem (P := P) gq k).2 ⟨es.toList[j], List.getElem_mem hj, pj⟩)
    refine wpAny_pure (wpAny_pure ?_)
    have q := hQ s.heap false (Heap.SameBut.refl a s.heap) (by
      unfold addK
      rw [if_pos inL]
      exact ⟨o, es, ep, t, ob, oe, od, gq, pm0, nd, few, fit, ri, le⟩)
    exact q
  | none =>
    dsimp only
    have nin : k ∉ es.toList.map kOf := fun z => by
      obtain ⟨e, he, q⟩ := (goodQ_mem (P := P) gq k).1 z
      have c := List.findIdx?_eq_none_iff.mp fi e he
      rw [q] at c
      cases c
    have ninL : k ∉ L := fun z => nin (pm0.mem_iff.mpr z)
    have gw : ∀ (b : Bool) {s₁ : Shared} {Q' : Unit → Shared → Prop}, Q' () s₁ → wpAny (model P w) A (match b with | true => rule "set.scan.the-table-gave-way" | false => pure ()) Q' E s₁ := fun b s₁ Q' q => by
      cases b
      · exact wpAny_pure q
      · exact wpAny_rule q
    have pm := layNew_perm t es ((mixKind P w).hash k) u
    have f1 := layNew_fits t es ((mixKind P w).hash k) u
    have r1 := layNew_ris t es ((mixKind P w).hash k) u ri
    have l1 := layNew_led t es ((mixKind P w).hash k) u
    generalize layNew t es ((mixKind P w).hash k) u = Z at pm f1 r1 l1 ⊢
    obtain ⟨xs, t1, wasDummy, gave⟩ := Z
    dsimp only at pm f1 r1 l1 ⊢
    rw [Array.toList_push] at pm
    have pc : xs.toList.Perm (((mixKind P w).hash k, u) :: es.toList) := pm.trans (List.perm_append_singleton _ _)
    have pk : (xs.toList.map kOf).Perm (addK L k) := by
      unfold addK
      rw [if_neg ninL]
      have z := pc.map kOf
      rw [List.map_cons, eu] at z
      exact z.trans (pm0.cons k)
    have ndk : (addK L k).Nodup := by
      unfold addK
      rw [if_neg ninL]
      exact List.nodup_cons.mpr ⟨ninL, nd⟩
    have g1 : ∀ e ∈ xs.toList, GoodQ w e := fun e he => by
      rcases List.mem_cons.mp (pc.mem_iff.mp he) with z | z
      · rw [z]; exact gu
      · exact gq e z
    have few1 : xs.size < scanBound := by
      have z := pk.length_eq
      unfold addK at z
      rw [if_neg ninL, List.length_map, Array.length_toList, List.length_cons] at z
      omega
    have led1 : w.params.followText "set-order" = true ∨ t1.led = true := le.imp id fun z => by rw [l1]; exact z
    refine wpAny_bind (gw _ ?_)
    split
    · refine wpAny_bind ?_
      rw [hashByValue_scannable 8 su]
      refine wpAny_pure ?_
      refine setQ_tail (L := addK L k) ?_ ob oe od g1 pk ndk few1 ?_ ?_ ?_ ?_
      · intro b s₁ Q' q
        cases b
        · exact wpAny_pure q
        · exact wpAny_rule q
      · first | (split <;> first | exact f1 | exact SetTable.fits_plain_off f1) | exact f1
      · first | (split <;> exact r1) | exact r1
      · first | (split <;> exact led1) | exact led1
      · intro h' sb r
        dsimp only
        exact wpAny_pure (hQ h' _ sb r)
    · refine wpAny_bind (wpAny_pure ?_)
      simp only [↓reduceIte]
      refine setQ_tail (L := addK L k) ?_ ob oe od g1 pk ndk few1 f1 r1 led1 ?_
      · intro b s₁ Q' q
        cases b
        · exact wpAny_pure q
        · exact wpAny_rule q
      · intro h' sb r
        dsimp only
        exact wpAny_pure (hQ h' _ sb r)
end
end LC

namespace LC
open PySem PySem.Spec PyProof.Rows L2
abbrev newSet (w : World) : Obj := { cls := .type "set", dict := none, data := .set #[] 0 (.fresh 0 0 (!w.params.followText "set-order")) }
section
variable {P : Program} {w : World} {A : Around} {E : Value → Shared → Prop} {s : Shared}
theorem SetQ.keep {h h' : Heap} {a : Addr} {L : List Key} (R : SetQ w h a L) (k : ∀ o, h.get? a = some o → h'.get? a = some o) : SetQ w h' a L := by
  obtain ⟨o, es, ep, t, ob, r⟩ := R
  exact ⟨o, es, ep, t, k o ob, r⟩
theorem setQ_fresh {h : Heap} {a : Addr} (ob : h.get? a = some (newSet w)) : SetQ w h a [] := by
  refine ⟨_, #[], 0, _, ob, ⟨rfl, rfl, rfl⟩, rfl, fun e he => (by simp at he), List.Perm.nil, List.nodup_nil, by decide, by rfl, List.Pairwise.nil, ?_⟩
  show _ ∨ (!w.params.followText "set-order") = true
  cases w.params.followText "set-order"
  · exact .inr rfl
  · exact .inl rfl
theorem addK_len (L : List Key) (k : Key) : (addK L k).length ≤ L.length + 1 := by
  unfold addK
  split
  · omega
  · simp
theorem foldl_addK_len : ∀ (ks L : List Key), (ks.foldl addK L).length ≤ L.length + ks.length
  | [], L => by simp
  | k :: ks, L => by
    have h1 := foldl_addK_len ks (addK L k)
    have h2 := addK_len L k
    simp only [List.foldl_cons, List.length_cons]
    omega
/-- the loop of set.update over keys -/
theorem setQ_loop {I : Addr} {fp wr : List Addr} {G : Array GenState → Array GenState → Prop} {n : Nat} {Pv : Nat → Value → Prop} {St : Nat → Shared → Prop} {R : Result → Shared → Prop}
    (W : WalksS P w A.in1 I fp wr G n Pv St) (S : Addr) (nf : S ∉ fp) (ks : List Key) (en : n = ks.length) (few : ks.length + 1 < scanBound) (val : ∀ i v, Pv i v → ∃ k, ks[i]? = some k ∧ RelV (kV k) v) :
    ∀ (c i : Nat) (s : Shared), n - i = c → i ≤ n → St i s → SetQ w s.heap S ((ks.take i).foldl addK []) → (∀ s', Moved (S :: wr) G s s' → SetQ w s'.heap S (ks.foldl addK []) → R (.ok (.ret .none)) s') →
      codeAny (model P w) A (.builtin "set.update.loop" ⟨[.ref S, .ref I], []⟩) R s := by
  have nw : S ∉ wr := fun z => nf (W.sub _ z)
  have up : ∀ b ∈ wr, b ∈ S :: wr := fun b hb => List.mem_cons_of_mem _ hb
  intro c
  induction c with
  | zero =>
    intro i s hc hi st hS hR
    obtain rfl : i = n := by omega
    refine codeAny_builtin F.entry_set_update_loop ?_
    rw [Around.under_plainId F.plain_set_update_loop _]
    show wpAny _ A.in1 (pyNext (.ref I) >>= _) _ _ s
    refine wpAny_bind (W.done s _ _ st fun s' mv => ?_)
    show wpAny _ A.in1 (ret Value.none) _ _ s'
    refine wpAny_pure (hR s' (mv.mono up) (SetQ.keep ?_ fun o e => mv.heap S o nw e))
    rw [en, List.take_length] at hS
    exact hS
  | succ c ih =>
    intro i s hc hi st hS hR
    have lt : i < n := by omega
    refine codeAny_builtin F.entry_set_update_loop ?_
    rw [Around.under_plainId F.plain_set_update_loop _]
    show wpAny _ A.in1 (pyNext (.ref I) >>= _) _ _ s
    refine wpAny_bind (W.item i s _ _ lt st fun v s' pv st' mv => ?_)
    obtain ⟨k, hk, rk⟩ := val i v pv
    have hS' : SetQ w s'.heap S ((ks.take i).foldl addK []) := hS.keep fun o e => mv.heap S o nw e
    show wpAny _ A.in1 (holding [v] (setAdd S v) >>= _) _ _ s'
    refine wpAny_bind (wpAny_holding ?_)
    unfold setAdd
    refine wpAny_holding (wpAny_bind ((mixKind P w).pyHash (k := k) (kV_is rk) ?_))
    have ll := foldl_addK_len (ks.take i) []
    rw [List.length_take, List.length_nil] at ll
    refine setQ_hashed (s := { s' with toks := s'.toks + 1 }) hS' rk (by omega) fun h' b sb hS2 => ?_
    have e1 : (ks.take (i + 1)).foldl addK [] = addK ((ks.take i).foldl addK []) k := take_foldl addK hk []
    rw [← e1] at hS2
    refine wpAny_pure ⟨plainId_quiet F.plain_set_update_loop _, ih (i + 1) _ (by omega) lt (W.frame _ s' _ _ st' (Nat.le_succ _) fun b hb o e => ?_) hS2 fun s'' mv2 hS3 => ?_⟩
    · rw [sb.2 b fun z : b = S => nf (by rw [← z]; exact hb)]
      exact e
    · refine hR s'' (Moved.trans W.gtrans ((mv.mono up).then_heap (Nat.le_succ _) fun b o hb e => ?_) mv2) hS3
      rw [sb.2 b fun z : b = S => hb (by rw [z]; exact List.mem_cons_self)]
      exact e
/-- set(xs), xs a list of ints and texts -/
theorem setQ_of {l : Addr} {items : Array Value} (ks : List Key) {Q : Value → Shared → Prop} (hh : A.handled = none) (hl : s.heap.IsList l items) (rel : Vals (ks.map kV) items.toList) (few : ks.length + 1 < scanBound)
    (h : ∀ (h' : Heap) (tk : Nat), SetQ w h' s.heap.objs.size (ks.foldl addK []) → (∀ b o, s.heap.get? b = some o → h'.get? b = some o) → Q (.ref s.heap.objs.size) { s with heap := h', toks := tk }) :
    wpAny (model P w) A (call (.type "set") [.ref l]) Q E s := by
  have isz : items.size = ks.length := by
    have q : (ks.map kV).length = items.toList.length := rel.length
    rw [List.length_map] at q
    simpa using q.symm
  obtain ⟨c0, tl0, mro0⟩ := F.called_set.mro
  have made0 := F.called_set.made
  have sub0 := F.called_set.sub
  refine wpAny_call (codeAny_of_tree ?_)
  show wpAny _ _ (callAny (.type "set") _) _ _ _
  refine wpAny_pure ⟨Code.quiet_builtin _ (by decide +kernel), codeAny_builtin F.entry_type_call ?_⟩
  rw [Around.under_plain (weight_type_call_type "set" [.ref l] []) rfl]
  have not0 := F.called_set.notType
  have can0 := F.called_set.canCreate
  have call0 := F.typeCall_set_1 (.ref l)
  repeat (any_goals (first | assumption | wp_step))
  refine codeAny_mono (code_set_led1 (.ref l) (E := E) (Q₁ := fun obj s₁ => obj = .ref s.heap.objs.size ∧ s₁ = { s with heap := s.heap.push (newSet w) }) ⟨rfl, rfl⟩) fun r s₁ hr => ?_
  cases r with
  | error e => exact hr
  | ok fl =>
    cases fl with
    | ret obj =>
      obtain ⟨rfl, rfl⟩ := hr
      have ob : (s.heap.push (newSet w)).get? s.heap.objs.size = some (newSet w) := Heap.get?_push_size _ rfl
      have ty : Shared.TypeIs { s with heap := s.heap.push (newSet w) } (.ref s.heap.objs.size) "set" := ⟨_, ob, rfl⟩
      have li0 := F.called_set.init.lookup
      have bi0 := F.called_set.init.bind (.ref s.heap.objs.size)
      repeat (any_goals (first | assumption | wp_step))
      refine codeAny_mono (codeAny_call_builtin (R := wants (fun r s₂ => r = .none ∧ ∃ h' tk, s₂ = { s with heap := h', toks := tk } ∧ SetQ w h' s.heap.objs.size (ks.foldl addK []) ∧ ∀ b o, s.heap.get? b = some o → h'.get? b = some o) E)
        F.called_set.init.plain F.entry_set_init (check_set_init_1 ty ?_)) fun r₂ s₂ hr₂ => ?_
      · obtain ⟨ol, hol, hcl, nl, hdl⟩ := hl
        obtain ⟨ocls, odict, odata, oslots⟩ := ol
        simp only at hcl hdl
        subst hcl hdl
        have hol2 : (s.heap.push (newSet w)).get? l = some { cls := .type "list", dict := odict, data := .seq items nl, slots := oslots } := Heap.get?_push_of_some _ hol
        have f1 := F.sub_list_set
        have f2 := F.sub_list_frozenset
        have f3 : (Value.type "list" == Value.type "dict") = false := by decide
        have isl : (s.heap.push (newSet w)).IsList l items := ⟨_, hol2, rfl, nl, rfl⟩
        unfold Builtin.«set.__init__» noKeywords Builtin.Frozenset.updateFrom
        generalize hPI : pyIter = PI
        wp_walk
        subst hPI
        refine wpAny_pyIter_list isl (wpAny_bind (wpAny_runValue ?_))
        have ls : l < s.heap.objs.size := Heap.lt_size hol
        have h3 : A.in1.in1.in1.handled = none := by simp [hh]
        have ne1 : l ≠ (s.heap.push (newSet w)).objs.size := by
          rw [Heap.size_push]
          exact Nat.ne_of_lt (Nat.lt_succ_of_lt ls)
        have nf : s.heap.objs.size ∉ [(s.heap.push (newSet w)).objs.size, l] := by
          rw [Heap.size_push]
          simp only [List.mem_cons, List.not_mem_nil, or_false, not_or]
          exact ⟨Nat.ne_of_lt (Nat.lt_succ_self _), Nat.ne_of_gt ls⟩
        have val : ∀ (i : Nat) (v : Value), items[i]? = some v → ∃ k, ks[i]? = some k ∧ RelV (kV k) v := fun i v hv => by
          have q : items.toList[i]? = some v := by rw [Array.getElem?_toList]; exact hv
          cases hq : ks[i]? with
          | none =>
            have z := rel.none_of (i := i) (by rw [List.getElem?_map, hq] <;> rfl)
            rw [q] at z
            cases z
          | some k =>
            obtain ⟨u, hu, ru⟩ := rel.get (i := i) (x := kV k) (by rw [List.getElem?_map, hq] <;> rfl)
            rw [q] at hu
            cases hu
            exact ⟨k, rfl, ru⟩
        refine setQ_loop ((Walks.list h3 _ l ne1 items).toS) s.heap.objs.size nf ks isz few val (items.size - 0) 0 _ (by omega) (Nat.zero_le _) ⟨⟨_, Heap.get?_push_size _ rfl, rfl, rfl⟩, (isl.push _)⟩ (setQ_fresh (Heap.get?_push_of_some _ ob)) fun s' mv hS => ?_
        obtain ⟨h', g2, d2, tk2, os2⟩ := s'
        have eg : g2 = s.gens := mv.gens
        have ed : d2 = s.drawn := mv.drawn
        have eo : os2 = s.os := mv.os
        subst eg ed eo
        show wpAny _ _ _ _ _ _
        refine wpAny_pure ?_
        show wpAny _ _ (ret Value.none) _ _ _
        refine wpAny_pure ⟨rfl, h', tk2, rfl, hS, fun b o e => mv.heap b o ?_ (Heap.get?_push_of_some _ (Heap.get?_push_of_some _ e))⟩
        have lb := Heap.lt_size e
        simp only [List.mem_cons, List.not_mem_nil, or_false, not_or]
        refine ⟨Nat.ne_of_lt lb, ?_⟩
        rw [Heap.size_push]
        exact Nat.ne_of_lt (Nat.lt_succ_of_lt lb)
      · cases r₂ with
        | error e => exact hr₂
        | ok fl₂ =>
          cases fl₂ with
          | ret r =>
            obtain ⟨rfl, h', tk, rfl, hS, hk⟩ := hr₂
            repeat (any_goals (first | assumption | wp_step))
            exact h _ _ hS hk
          | _ => exact hr₂.elim
    | _ => exact hr.elim
/-- the members of a set of texts, of ints, in some order -/
theorem strs_of_keys : ∀ (l : List (Int × Value)) (xs : List Str), (∀ e ∈ l, GoodQ w e) → l.map kOf = xs.map Sum.inr → StrsAre (l.map (·.2)) xs
  | [], [], _, _ => .nil
  | [], _ :: _, _, h => by simp at h
  | _ :: _, [], _, h => by simp at h
  | e :: l, x :: xs, g, h => by
    simp only [List.map_cons, List.cons.injEq] at h
    have ih := strs_of_keys l xs (fun q hq => g q (List.mem_cons_of_mem _ hq)) h.2
    rcases g e (List.mem_cons_self ..) with ⟨k, tk, h1, _⟩ | ⟨y, tk, h1, _⟩
    · have z := h.1
      unfold kOf at z
      rw [h1] at z
      cases z
    · have z := h.1
      unfold kOf at z
      rw [h1] at z
      cases z
      rw [List.map_cons, h1]
      exact .cons x tk ih
theorem ints_of_keys : ∀ (l : List (Int × Value)) (xs : List Int), (∀ e ∈ l, GoodQ w e) → l.map kOf = xs.map Sum.inl → IntsAre (l.map (·.2)) xs
  | [], [], _, _ => .nil
  | [], _ :: _, _, h => by simp at h
  | _ :: _, [], _, h => by simp at h
  | e :: l, x :: xs, g, h => by
    simp only [List.map_cons, List.cons.injEq] at h
    have ih := ints_of_keys l xs (fun q hq => g q (List.mem_cons_of_mem _ hq)) h.2
    rcases g e (List.mem_cons_self ..) with ⟨k, tk, h1, _⟩ | ⟨y, tk, h1, _⟩
    · have z := h.1
      unfold kOf at z
      rw [h1] at z
      cases z
      rw [List.map_cons, h1]
      exact .cons x tk ih
    · have z := h.1
      unfold kOf at z
      rw [h1] at z
      cases z
end
end LC

namespace LC
open PySem PySem.Spec PyProof.Rows L2 Evl
/-! ### each once -/
def nub {α : Type} [DecidableEq α] : List α → List α
  | [] => []
  | x :: l => x :: (nub l).filter (fun y => decide (y ≠ x))
section
variable {α : Type} [DecidableEq α]
theorem mem_nub (x : α) : ∀ l : List α, x ∈ nub l ↔ x ∈ l
  | [] => Iff.rfl
  | y :: l => by
    have ih := mem_nub x l
    show x ∈ y :: (nub l).filter (fun z => decide (z ≠ y)) ↔ x ∈ y :: l
    rw [List.mem_cons, List.mem_cons, List.mem_filter, ih]
    simp only [ne_eq, decide_not, Bool.not_eq_true', decide_eq_false_iff_not]
    by_cases h : x = y
    · simp [h]
    · simp [h]
theorem nub_nodup : ∀ l : List α, (nub l).Nodup
  | [] => List.nodup_nil
  | y :: l => by
    refine List.nodup_cons.mpr ⟨fun z => ?_, (nub_nodup l).sublist List.filter_sublist⟩
    simp at z
theorem nub_len : ∀ l : List α, (nub l).length ≤ l.length
  | [] => Nat.le_refl _
  | y :: l => by
    have h1 := nub_len l
    have h2 := List.length_filter_le (fun z => decide (z ≠ y)) (nub l)
    show ((nub l).filter (fun z => decide (z ≠ y))).length + 1 ≤ l.length + 1
    omega
end
/-! ### the order of texts -/
def leS (x y : Str) : Bool := !ltCps y.cps.toList x.cps.toList
theorem lt_trans0 : ∀ a b c : List Nat, ltCps b a = false → ltCps c b = false → ltCps c a = false := by
  intro a
  induction a with
  | nil => intro b c h1 h2; cases c <;> simp_all [ltCps]
  | cons x a ih =>
    intro b c h1 h2
    cases b with
    | nil => simp [ltCps] at h1
    | cons y b =>
      cases c with
      | nil => simp [ltCps] at h2
      | cons z c =>
        simp only [ltCps, Bool.or_eq_false_iff, Bool.and_eq_false_iff, decide_eq_false_iff_not, beq_eq_false_iff_ne] at h1 h2 ⊢
        refine ⟨by omega, ?_⟩
        by_cases e : z = x
        · right
          have e1 : y = x := by omega
          have e2 : z = y := by omega
          rcases h1.2 with q | q
          · exact absurd e1 q
          · rcases h2.2 with q2 | q2
            · exact absurd e2 q2
            · exact ih b c q q2
        · exact .inl e
theorem lt_anti0 : ∀ a b : List Nat, ltCps b a = false → ltCps a b = false → a = b := by
  intro a
  induction a with
  | nil => intro b h1 h2; cases b <;> simp_all [ltCps]
  | cons x a ih =>
    intro b h1 h2
    cases b with
    | nil => simp [ltCps] at h1
    | cons y b =>
      simp only [ltCps, Bool.or_eq_false_iff, Bool.and_eq_false_iff, decide_eq_false_iff_not, beq_eq_false_iff_ne] at h1 h2
      have e : x = y := by omega
      subst e
      rw [ih b (h1.2.resolve_left (fun z => z rfl)) (h2.2.resolve_left fun z => z rfl)]
theorem lt_total0 : ∀ a b : List Nat, ltCps b a = false ∨ ltCps a b = false := by
  intro a
  induction a with
  | nil => intro b; left; cases b <;> simp [ltCps]
  | cons x a ih =>
    intro b
    cases b with
    | nil => right; simp [ltCps]
    | cons y b =>
      simp only [ltCps, Bool.or_eq_false_iff, Bool.and_eq_false_iff, decide_eq_false_iff_not, beq_eq_false_iff_ne]
      rcases ih b with q | q
      · by_cases e : y < x
        · exact .inr ⟨by omega, .inl (by omega)⟩
        · exact .inl ⟨e, .inr q⟩
      · by_cases e : x < y
        · exact .inl ⟨by omega, .inl (by omega)⟩
        · exact .inr ⟨e, .inr q⟩
end LC
namespace LC
open PySem PySem.Spec PyProof.Rows L2 Evl
theorem rising_pair : ∀ (l : List Str) (p : Str), risingS p l = true → (p :: l).Pairwise (fun a b => leS a b = true)
  | [], p, _ => List.pairwise_singleton _ _
  | x :: l, p, h => by
    have h : (!ltCps x.cps.toList p.cps.toList && risingS x l) = true := h
    rw [Bool.and_eq_true] at h
    have ih := rising_pair l x h.2
    refine List.pairwise_cons.mpr ⟨fun y hy => ?_, ih⟩
    rcases List.mem_cons.mp hy with rfl | hy
    · exact h.1
    · have h2 := (List.pairwise_cons.mp ih).1 y hy
      have e1 : ltCps x.cps.toList p.cps.toList = false := by simpa using h.1
      have e2 : ltCps y.cps.toList x.cps.toList = false := by simpa [leS] using h2
      show (!ltCps y.cps.toList p.cps.toList) = true
      rw [lt_trans0 _ _ _ e1 e2] <;> rfl
theorem sorted_pair {l : List Str} (h : sortedS l = true) : l.Pairwise (fun a b => leS a b = true) := by
  cases l with
  | nil => exact List.Pairwise.nil
  | cons x l => exact rising_pair l x h
/-- each once, rising -/
def sortU (xs : List Str) : List Str := (nub xs).mergeSort leS
def sortI (xs : List Int) : List Int := (nub xs).mergeSort fun a b => decide (a ≤ b)
theorem leS_anti {x y : Str} (h1 : leS x y = true) (h2 : leS y x = true) : x = y := by
  have e := lt_anti0 x.cps.toList y.cps.toList (by simpa [leS] using h1) (by simpa [leS] using h2)
  obtain ⟨⟨l1⟩⟩ := x
  obtain ⟨⟨l2⟩⟩ := y
  have e : l1 = l2 := e
  rw [e]
theorem sortU_eq {xs ys : List Str} (hn : ys.Nodup) (hm : ∀ x, x ∈ ys ↔ x ∈ xs) (hs : sortedS ys = true) : ys = sortU xs := by
  have pm : ys.Perm (nub xs) := (List.perm_ext_iff_of_nodup hn (nub_nodup xs)).mpr fun x => (hm x).trans (mem_nub x xs).symm
  refine (pm.trans (List.mergeSort_perm _ _).symm).eq_of_pairwise (fun x y _ _ h1 h2 => leS_anti h1 h2) (sorted_pair hs) (List.pairwise_mergeSort ?_ ?_ _)
  · intro a b c h1 h2
    show (!ltCps c.cps.toList a.cps.toList) = true
    rw [lt_trans0 a.cps.toList b.cps.toList c.cps.toList (by simpa [leS] using h1) (by simpa [leS] using h2)] <;> rfl
  · intro a b
    rcases lt_total0 a.cps.toList b.cps.toList with q | q <;> simp [leS, q]
theorem sortI_eq {xs ys : List Int} (hn : ys.Nodup) (hm : ∀ x, x ∈ ys ↔ x ∈ xs) (hs : ys.Pairwise (· ≤ ·)) : ys = sortI xs := by
  have pm : ys.Perm (nub xs) := (List.perm_ext_iff_of_nodup hn (nub_nodup xs)).mpr fun x => (hm x).trans (mem_nub x xs).symm
  refine (pm.trans (List.mergeSort_perm _ _).symm).eq_of_pairwise (le := fun a b => a ≤ b) (fun x y _ _ h1 h2 => Int.le_antisymm h1 h2) hs ?_
  have h := List.pairwise_mergeSort (le := fun a b : Int => decide (a ≤ b)) (by intro a b c h1 h2; simp at h1 h2 ⊢; omega) (by intro a b; simp; omega) (nub xs)
  exact h.imp fun z => by simpa using z
theorem mem_addK {x k : Key} {L : List Key} : x ∈ addK L k ↔ x ∈ L ∨ x = k := by
  unfold addK
  split
  · rename_i h
    exact ⟨.inl, fun z => z.elim id fun e => e ▸ h⟩
  · rw [List.mem_cons]
    exact Or.comm
theorem mem_foldK {x : Key} : ∀ (ks L : List Key), x ∈ ks.foldl addK L ↔ x ∈ L ∨ x ∈ ks
  | [], L => by simp
  | k :: ks, L => by
    rw [List.foldl_cons, mem_foldK ks, mem_addK, List.mem_cons, or_assoc]
/-- a set of keys, as an object -/
def SetQO (w : World) (a : Addr) (L : List Key) : HO := .ext fun h => SetQ w h a L
theorem setQO_new {P : Program} {w : World} {H : Hp} {h : Heap} {a : Addr} {L : List Key} (R : SetQ w h a L) : ObjOk P w H h a (SetQO w a L) := by
  have ⟨o, _, _, _, ho, _⟩ := R
  exact ⟨R, ⟨o, ho⟩, fun h1 h2 p k => SetQ.keep p k⟩
def rSetQ (K : Frag) (w : World) : List V → Hp → VK → Prop := fun xs H Q => ∃ (l : Addr) (ks : List Key), xs = [V.ref l] ∧ SqL K H l (ks.map kV) ∧ ks.length + 1 < scanBound ∧ ∀ a, H a = none → Q (.ref a) (upd H a (SetQO w a (ks.foldl addK [])))
def rSortQS (w : World) : List V → Hp → VK → Prop := fun vs H Q => ∃ (a : Addr) (L : List Key) (xs : List Str), vs = [V.ref a] ∧ H a = some (SetQO w a L) ∧ L.Nodup ∧ (∀ k, k ∈ L ↔ k ∈ xs.map Sum.inr) ∧ L.length < 64 ∧ ∀ p, H p = none → Q (.ref p) (upd H p (.lst ((sortU xs).map V.str)))
def rSortQI (w : World) : List V → Hp → VK → Prop := fun vs H Q => ∃ (a : Addr) (L : List Key) (xs : List Int), vs = [V.ref a] ∧ H a = some (SetQO w a L) ∧ L.Nodup ∧ (∀ k, k ∈ L ↔ k ∈ xs.map Sum.inl) ∧ L.length < 64 ∧ ∀ p, H p = none → Q (.ref p) (upd H p (.lst ((sortI xs).map V.int)))
theorem all_inr : ∀ {L : List Key} {xs : List Str}, (∀ k ∈ L, k ∈ xs.map Sum.inr) → ∃ ys : List Str, L = ys.map Sum.inr ∧ ∀ y ∈ ys, y ∈ xs
  | [], _, _ => ⟨[], rfl, fun _ h => by cases h⟩
  | k :: L, xs, h => by
    obtain ⟨ys, e, hs⟩ := all_inr (L := L) (xs := xs) fun q hq => h q (List.mem_cons_of_mem _ hq)
    obtain ⟨y, hy, rfl⟩ := List.mem_map.mp (h k (List.mem_cons_self ..))
    exact ⟨y :: ys, by rw [e] <;> rfl, fun z hz => by
      rcases List.mem_cons.mp hz with rfl | hz
      · exact hy
      · exact hs z hz⟩
theorem all_inl : ∀ {L : List Key} {xs : List Int}, (∀ k ∈ L, k ∈ xs.map Sum.inl) → ∃ ys : List Int, L = ys.map Sum.inl ∧ ∀ y ∈ ys, y ∈ xs
  | [], _, _ => ⟨[], rfl, fun _ h => by cases h⟩
  | k :: L, xs, h => by
    obtain ⟨ys, e, hs⟩ := all_inl (L := L) (xs := xs) fun q hq => h q (List.mem_cons_of_mem _ hq)
    obtain ⟨y, hy, rfl⟩ := List.mem_map.mp (h k (List.mem_cons_self ..))
    exact ⟨y :: ys, by rw [e] <;> rfl, fun z hz => by
      rcases List.mem_cons.mp hz with rfl | hz
      · exact hy
      · exact hs z hz⟩
theorem nodup_map' {α β : Type} (f : α → β) : ∀ {l : List α}, (l.map f).Nodup → l.Nodup
  | [], _ => List.nodup_nil
  | x :: l, h => by
    rw [List.map_cons, List.nodup_cons] at h
    exact List.nodup_cons.mpr ⟨fun z => h.1 (List.mem_map.mpr ⟨x, z, rfl⟩), nodup_map' f h.2⟩
theorem strs_perm {us vs : List Value} {xs : List Str} (p : vs.Perm us) (h : StrsAre us xs) : ∃ ys, StrsAre vs ys ∧ ys.Perm xs := by
  induction p generalizing xs with
  | nil =>
    cases h
    exact ⟨[], .nil, List.Perm.nil⟩
  | cons x _ ih =>
    cases h with
    | cons y t h =>
      obtain ⟨ys, h1, h2⟩ := ih h
      exact ⟨y :: ys, .cons y t h1, h2.cons y⟩
  | swap x y l =>
    cases h with
    | cons a t h =>
      cases h with
      | cons b u h => exact ⟨_, .cons b u (.cons a t h), List.Perm.swap _ _ _⟩
  | trans p1 p2 ih1 ih2 =>
    obtain ⟨ys, h1, h2⟩ := ih2 h
    obtain ⟨zs, h3, h4⟩ := ih1 h1
    exact ⟨zs, h3, h4.trans h2⟩
theorem ints_perm {us vs : List Value} {xs : List Int} (p : vs.Perm us) (h : IntsAre us xs) : ∃ ys, IntsAre vs ys ∧ ys.Perm xs := by
  induction p generalizing xs with
  | nil =>
    cases h
    exact ⟨[], .nil, List.Perm.nil⟩
  | cons x _ ih =>
    cases h with
    | cons y t h =>
      obtain ⟨ys, h1, h2⟩ := ih h
      exact ⟨y :: ys, .cons y t h1, h2.cons y⟩
  | swap x y l =>
    cases h with
    | cons a t h =>
      cases h with
      | cons b u h => exact ⟨_, .cons b u (.cons a t h), List.Perm.swap _ _ _⟩
  | trans p1 p2 ih1 ih2 =>
    obtain ⟨ys, h1, h2⟩ := ih2 h
    obtain ⟨zs, h3, h4⟩ := ih1 h1
    exact ⟨zs, h3, h4.trans h2⟩
theorem strs_vals {K : Frag} {H : Hp} : ∀ {vs : List V} {xs : List Str}, DtAll K H vs (xs.map PyData.str) → vs = xs.map V.str
  | _, [], h => by cases h; rfl
  | _, x :: xs, h => by
    cases h with
    | cons h1 h2 =>
      rw [dp_str h1, strs_vals h2]
      rfl
theorem ints_vals {K : Frag} {H : Hp} : ∀ {vs : List V} {xs : List Int}, DtAll K H vs (xs.map PyData.int) → vs = xs.map V.int
  | _, [], h => by cases h; rfl
  | _, x :: xs, h => by
    cases h with
    | cons h1 h2 =>
      rw [dp_int h1, ints_vals h2]
      rfl
section
variable {X : Cx}
theorem crSet (hc : X.calm = true) : CallR X (.type "set") (rSetQ X.K X.w) := by
  intro pins s σ H xs us Q I r h
  obtain ⟨l, ks, rfl, hl, few, q⟩ := h
  rw [Vals.ref1 r]
  obtain ⟨its, rv, pl, hz⟩ := I.list hl
  have hn : H s.heap.objs.size = none := I.hok.fresh (Nat.le_refl _)
  refine setQ_of (P := X.prog) (w := X.w) ks (I.ok.hd hc) pl.isList (by simpa using rv) few fun h' tk R k => ?_
  exact ⟨.ref s.heap.objs.size, upd H s.heap.objs.size (SetQO X.w s.heap.objs.size _), I.laid (t' := tk) k (Nat.le_refl _) (setQO_new R), rfl, q _ hn⟩
theorem crSortS (hc : X.calm = true) : CallR X (.builtin "sorted") (rSortQS X.w) := by
  intro pins s σ H vs us Q I r h
  obtain ⟨a, L, xs, rfl, ha, nd, hm, h64, q⟩ := h
  rw [Vals.ref1 r]
  obtain ⟨o, es, ep, t, ob, oe, od, gq, pm0, nd0, few, fit, ri, le⟩ := (show SetQ X.w s.heap a L from (I.hok a _ ha).1)
  obtain ⟨zs, ez, hz⟩ := all_inr (L := es.toList.map kOf) (xs := xs) fun k hk => (hm k).mp (pm0.mem_iff.mp hk)
  refine Calls.call_function_entry kind_sorted plain_sorted entry_sorted (args_sorted1 _) ?_
  unfold Builtin.«sorted»
  refine wpAny_bind (m := checkCount "sorted" 1 1 _) (wpAny_pure ?after)
  case after =>
  refine wpAny_bind (collect_set (A := X.A.in1) (I.ok.hd hc) ⟨o, ob, oe.1, od⟩ fit few ri le fun s1 vs k1 sz g1 o1 pm => ?_)
  have hS0 : StrsAre (es.toList.map (·.2)) zs := strs_of_keys _ _ gq ez
  have lenE : es.toList.length < 64 := by
    have z := pm0.length_eq
    rw [List.length_map] at z
    omega
  have lenV : vs.length < 64 := by rw [pm.length_eq, List.length_map]; exact lenE
  obtain ⟨zs2, hS, pz⟩ : ∃ zs2, StrsAre vs zs2 ∧ zs2.Perm zs := strs_perm pm hS0
  refine wpAny_bind (wpAny_newList ?_ (by rw [sizeLine_eq]; omega))
  have obL : (s1.heap.push (seqObj "list" vs.toArray 0)).get? s1.heap.objs.size = some (seqObj "list" vs.toArray 0) := Heap.get?_push_size _ rfl
  refine wpAny_bind (wpAny_holding (wpAny_call_entry slot_list_sort ⟨_, obL, rfl⟩ entry_list_sort (list_sort_treeK strKind_oneLt obL hS.keysOf (fun v₁ v₂ rest e => keyKind_strs (by rw [← e]; exact hS)) lenV fun st' hp hs => ⟨_, rfl, ?_⟩) (args_list_sort _)))
  obtain ⟨ys, y1, y2, y3⟩ := sorted_out_str hS hp hs
  obtain ⟨c, hc2⟩ := sortedHeap_at (vs := vs) (out := (arrOf st').map (·.2)) obL
  have ndz : zs.Nodup := by
    have z : (es.toList.map kOf).Nodup := pm0.nodup_iff.mpr nd
    rw [ez] at z
    exact nodup_map' _ z
  have ey : ys = sortU xs := by
    refine sortU_eq ((y2.trans pz).nodup_iff.mpr ndz) (fun x => ?_) y3
    rw [(y2.trans pz).mem_iff]
    refine ⟨hz x, fun hx => ?_⟩
    have z : (Sum.inr x : Key) ∈ es.toList.map kOf := pm0.mem_iff.mpr ((hm _).mpr (List.mem_map.mpr ⟨x, hx, rfl⟩))
    rw [ez] at z
    obtain ⟨x', hx', e⟩ := List.mem_map.mp z
    cases e
    exact hx'
  have ll : (ys.map V.str).length ≤ sizeLine := by
    rw [List.length_map, (y2.trans pz).length_eq, ← List.length_map (f := (Sum.inr : Str → Key)), ← ez, List.length_map, sizeLine_eq]
    omega
  have hn : H s1.heap.objs.size = none := I.hok.fresh sz
  have kp : ∀ b u, s.heap.get? b = some u → (sortedHeap (s1.heap.push (seqObj "list" vs.toArray 0)) s1.heap.objs.size vs ((arrOf st').map (·.2))).get? b = some u := fun b u e => by
    have q := k1 b u e
    have lt := Heap.lt_size q
    rw [sortedHeap_old (Nat.ne_of_lt lt) (by rw [size_push']; exact Nat.lt_succ_of_lt lt)]
    exact Heap.get?_push_of_some _ q
  have ob2 : ObjOk X.prog X.w (upd H s1.heap.objs.size (.lst (ys.map V.str))) (sortedHeap (s1.heap.push (seqObj "list" vs.toArray 0)) s1.heap.objs.size vs ((arrOf st').map (·.2))) s1.heap.objs.size (.lst (ys.map V.str)) :=
    ⟨ll, ((arrOf st').map (·.2)).toList, c, vals_of_strs y1, by rw [Array.toArray_toList]; exact hc2⟩
  obtain ⟨h1, gg, dd, tt, oo⟩ := s1
  have eo : oo = s.os := o1
  have eg : gg = s.gens := g1
  subst eo
  subst eg
  have J : Inv X pins σ (upd H h1.objs.size (.lst (ys.map V.str))) { s with heap := sortedHeap (h1.push (seqObj "list" vs.toArray 0)) h1.objs.size vs ((arrOf st').map (·.2)), gens := s.gens, drawn := dd, toks := tt } :=
    I.call (ch := []) (Un.laid kp sz hn) (I.hok.laid kp sz ob2) I.bare (fun _ z => nomatch z)
  refine wpAny_pure ⟨_, rfl, ?_⟩
  rw [ey] at J
  exact ⟨.ref h1.objs.size, _, J, rfl, q _ hn⟩
theorem crSortI (hc : X.calm = true) : CallR X (.builtin "sorted") (rSortQI X.w) := by
  intro pins s σ H vs us Q I r h
  obtain ⟨a, L, xs, rfl, ha, nd, hm, h64, q⟩ := h
  rw [Vals.ref1 r]
  obtain ⟨o, es, ep, t, ob, oe, od, gq, pm0, nd0, few, fit, ri, le⟩ := (show SetQ X.w s.heap a L from (I.hok a _ ha).1)
  obtain ⟨zs, ez, hz⟩ := all_inl (L := es.toList.map kOf) (xs := xs) fun k hk => (hm k).mp (pm0.mem_iff.mp hk)
  refine Calls.call_function_entry kind_sorted plain_sorted entry_sorted (args_sorted1 _) ?_
  unfold Builtin.«sorted»
  refine wpAny_bind (m := checkCount "sorted" 1 1 _) (wpAny_pure ?after)
  case after =>
  refine wpAny_bind (collect_set (A := X.A.in1) (I.ok.hd hc) ⟨o, ob, oe.1, od⟩ fit few ri le fun s1 vs k1 sz g1 o1 pm => ?_)
  have hS0 : IntsAre (es.toList.map (·.2)) zs := ints_of_keys _ _ gq ez
  have lenE : es.toList.length < 64 := by
    have z := pm0.length_eq
    rw [List.length_map] at z
    omega
  have lenV : vs.length < 64 := by rw [pm.length_eq, List.length_map]; exact lenE
  obtain ⟨zs2, hS, pz⟩ : ∃ zs2, IntsAre vs zs2 ∧ zs2.Perm zs := ints_perm pm hS0
  refine wpAny_bind (wpAny_newList ?_ (by rw [sizeLine_eq]; omega))
  have obL : (s1.heap.push (seqObj "list" vs.toArray 0)).get? s1.heap.objs.size = some (seqObj "list" vs.toArray 0) := Heap.get?_push_size _ rfl
  refine wpAny_bind (wpAny_holding (wpAny_call_entry slot_list_sort ⟨_, obL, rfl⟩ entry_list_sort (list_sort_tree obL hS lenV fun out ys y1 y2 y3 => ⟨_, rfl, ?_⟩) (args_list_sort _)))
  obtain ⟨c, hc2⟩ := sortedHeap_at (vs := vs) (out := out) obL
  have ndz : zs.Nodup := by
    have z : (es.toList.map kOf).Nodup := pm0.nodup_iff.mpr nd
    rw [ez] at z
    exact nodup_map' _ z
  have ey : ys = sortI xs := by
    refine sortI_eq ((y2.trans pz).nodup_iff.mpr ndz) (fun x => ?_) y3
    rw [(y2.trans pz).mem_iff]
    refine ⟨hz x, fun hx => ?_⟩
    have z : (Sum.inl x : Key) ∈ es.toList.map kOf := pm0.mem_iff.mpr ((hm _).mpr (List.mem_map.mpr ⟨x, hx, rfl⟩))
    rw [ez] at z
    obtain ⟨x', hx', e⟩ := List.mem_map.mp z
    cases e
    exact hx'
  have ll : (ys.map V.int).length ≤ sizeLine := by
    rw [List.length_map, (y2.trans pz).length_eq, ← List.length_map (f := (Sum.inl : Int → Key)), ← ez, List.length_map, sizeLine_eq]
    omega
  have hn : H s1.heap.objs.size = none := I.hok.fresh sz
  have kp : ∀ b u, s.heap.get? b = some u → (sortedHeap (s1.heap.push (seqObj "list" vs.toArray 0)) s1.heap.objs.size vs out).get? b = some u := fun b u e => by
    have q := k1 b u e
    have lt := Heap.lt_size q
    rw [sortedHeap_old (Nat.ne_of_lt lt) (by rw [size_push']; exact Nat.lt_succ_of_lt lt)]
    exact Heap.get?_push_of_some _ q
  have ob2 : ObjOk X.prog X.w (upd H s1.heap.objs.size (.lst (ys.map V.int))) (sortedHeap (s1.heap.push (seqObj "list" vs.toArray 0)) s1.heap.objs.size vs out) s1.heap.objs.size (.lst (ys.map V.int)) :=
    ⟨ll, out.toList, c, vals_of_ints y1, by rw [Array.toArray_toList]; exact hc2⟩
  obtain ⟨h1, gg, dd, tt, oo⟩ := s1
  have eo : oo = s.os := o1
  have eg : gg = s.gens := g1
  subst eo
  subst eg
  have J : Inv X pins σ (upd H h1.objs.size (.lst (ys.map V.int))) { s with heap := sortedHeap (h1.push (seqObj "list" vs.toArray 0)) h1.objs.size vs out, gens := s.gens, drawn := dd, toks := tt } :=
    I.call (ch := []) (Un.laid kp sz hn) (I.hok.laid kp sz ob2) I.bare (fun _ z => nomatch z)
  refine wpAny_pure ⟨_, rfl, ?_⟩
  rw [ey] at J
  exact ⟨.ref h1.objs.size, _, J, rfl, q _ hn⟩
end
end LC
namespace LC
open PySem PySem.Spec PyProof.Rows L2 Evl
section
variable {X : Cx} {K : Frag} {w : World}
theorem kSet (h : X.K = K) (hw : X.w = w) (hc : X.calm = true) : CallR X (.type "set") (rSetQ K w) := by
  subst h hw
  exact crSet hc
def rSortU (w : World) : List V → Hp → VK → Prop := fun vs H Q => rSortQS w vs H Q ∨ rSortQI w vs H Q
theorem kSort (hw : X.w = w) (hc : X.calm = true) : CallR X (.builtin "sorted") (rSortU w) := by
  subst hw
  exact CallR.or (crSortS hc) (crSortI hc)
end
section
variable {K : Frag} {w : World} {σ : L2.St} {H : Hp} {te : TE}
theorem foldK_nodup : ∀ (ks L : List Key), L.Nodup → (ks.foldl addK L).Nodup
  | [], L, h => h
  | k :: ks, L, h => by
    refine foldK_nodup ks (addK L k) ?_
    unfold addK
    split
    · exact h
    · rename_i n
      exact List.nodup_cons.mpr ⟨n, h⟩
/-- sorted(set(xs)), xs a list of texts; of ints -/
theorem evd_sortS {xs : List Str} (h : EvD K te σ H (.list (xs.map PyData.str))) (hl : xs.length < 60) : EvD K (tCB (rSortU w) (tCons (tCB (rSetQ K w) (tCons te tNil)) tNil)) σ H (.list ((sortU xs).map PyData.str)) := fun H1 e Q q =>
  h H1 e _ fun v H2 A g hd => by
    obtain ⟨a, vs, rfl, hs, hall⟩ := dp_lst hd
    have ev : vs = (xs.map (Sum.inr : Str → Key)).map kV := by
      rw [List.map_map]
      exact strs_vals hall
    refine ⟨a, xs.map Sum.inr, rfl, sq_of (by rw [← ev]; exact g.d2 _ _ hs), by rw [List.length_map]; unfold scanBound; omega, fun b hb => ?_⟩
    have ll := foldl_addK_len (xs.map (Sum.inr : Str → Key)) []
    rw [List.length_map, List.length_nil] at ll
    refine .inl ⟨b, _, xs, rfl, upd_same, foldK_nodup _ [] List.nodup_nil, fun k => by rw [mem_foldK]; simp, by omega, fun p hp => ?_⟩
    have hp2 : H2 p = none := fresh_back (Ex.new hb) hp
    have npb : p ≠ b := fun z => by rw [z, upd_same] at hp; cases hp
    have g2 : Gr H H1 (upd (upd H2 b (SetQO w b ((xs.map (Sum.inr : Str → Key)).foldl addK []))) p (.lst ((sortU xs).map V.str))) (upd A p (.lst ((sortU xs).map V.str))) := (g.more (Ex.new hb)).new _ hp
    exact q _ _ _ g2 (.lst upd_same (dt_strs _))
theorem evd_sortI {xs : List Int} (h : EvD K te σ H (.list (xs.map PyData.int))) (hl : xs.length < 60) : EvD K (tCB (rSortU w) (tCons (tCB (rSetQ K w) (tCons te tNil)) tNil)) σ H (.list ((sortI xs).map PyData.int)) := fun H1 e Q q =>
  h H1 e _ fun v H2 A g hd => by
    obtain ⟨a, vs, rfl, hs, hall⟩ := dp_lst hd
    have ev : vs = (xs.map (Sum.inl : Int → Key)).map kV := by
      rw [List.map_map]
      exact ints_vals hall
    refine ⟨a, xs.map Sum.inl, rfl, sq_of (by rw [← ev]; exact g.d2 _ _ hs), by rw [List.length_map]; unfold scanBound; omega, fun b hb => ?_⟩
    have ll := foldl_addK_len (xs.map (Sum.inl : Int → Key)) []
    rw [List.length_map, List.length_nil] at ll
    refine .inr ⟨b, _, xs, rfl, upd_same, foldK_nodup _ [] List.nodup_nil, fun k => by rw [mem_foldK]; simp, by omega, fun p hp => ?_⟩
    have g2 : Gr H H1 (upd (upd H2 b (SetQO w b ((xs.map (Sum.inl : Int → Key)).foldl addK []))) p (.lst ((sortI xs).map V.int))) (upd A p (.lst ((sortI xs).map V.int))) := (g.more (Ex.new hb)).new _ hp
    exact q _ _ _ g2 (.lst upd_same (dt_ints _))
end
end LC

namespace LC
open PySem PySem.Spec PyProof.Rows L2 Evl
/-! ### defs that raise -/
def veB : List Value := [.type "ValueError", .type "Exception", .type "BaseException", .type "object"]
structure ExcF (K : Frag) (mg : Str → Option Value) (x : Str) (c : Addr) : Prop where
  q : PySem.W.excIn K c veB "ValueError.__new__" = true
  g : mg x = some (.ref c)
  k : PySem.W.keepIn K (.ref c) = true
  b : PySem.W.subIn K (.ref c) (.type "BaseException") = some true
  t : PySem.W.typeIn K (.ref c) = some (.type "type")
section
variable {P : Program} {w : World} {K : Frag} {mg : Str → Option Value} {base : Heap} {x q : Str} {st : Stmt} {f : Addr} {fd : FuncData} {N ps : List Str} {k : Nat} {sp : Sp}
theorem has_x (F : FnP K x q st f fd) (g : mg x = some (.ref f)) (b : Binds K fd ps []) (S : FnScope N ps (defScope st)) (len : ∀ vs H Q E, sp vs H Q E → vs.length = ps.length)
    (hbody : ∀ (cdv : Value) (A : Around) (outer : List Env) (s : Shared) (H : Hp) (vs : List V) (Q : VK) (E : XK), Room k (A.deeper (envOfC q (defScope st) s.heap.objs.size f cdv)) → sp vs H Q E →
      ∃ t, PSs (cxOf (L2.CX P w) P w K mg base N q (defScope st) f cdv A outer s H E) (defBody st) t ∧ t { nx := fun _ H' => Q .non H', rt := Q } (start N vs) H) : Has P w K mg base (L2.CX P w) (k + 1) x ps sp :=
  ⟨f, fd, F.ok S len hbody, b, F.kp, g⟩
theorem has_p (F : FnP K x q st f fd) (g : mg x = some (.ref f)) (b : Binds K fd ps []) (S : FnScope N ps (defScope st)) (len : ∀ vs H Q E, sp vs H Q E → vs.length = ps.length)
    (hbody : ∀ (cdv : Value) (A : Around) (outer : List Env) (s : Shared) (H : Hp) (vs : List V) (Q : VK) (E : XK), Room k (A.deeper (envOfC q (defScope st) s.heap.objs.size f cdv)) → sp vs H Q E →
      ∃ t, PSs (cxOf CX0 P w K mg base N q (defScope st) f cdv A outer s H E).nox (defBody st) t ∧ t { nx := fun _ H' => Q .non H', rt := Q } (start N vs) H) : Has P w K mg base CX0 (k + 1) x ps sp :=
  ⟨f, fd, F.ok S len (fun cdv A outer s H vs Q E hr h => by
    obtain ⟨t, ht, r⟩ := hbody cdv A outer s H vs Q E hr h
    exact ⟨t, PSs.nox ht, r⟩), b, F.kp, g⟩
end
/-- a promise over data that may be refused with the class at cB -/
def spDX (K : Frag) (cB : Addr) (F : List PyData → Option PyData → Prop) : Sp := fun vs H Q E => ∃ ds o H0, Ex H0 H ∧ DtAll K H0 vs ds ∧ F ds o ∧ (∀ d, o = some d → Rt K H0 H d Q) ∧ (o = none → ∀ H2, Ex H H2 → E (.ref cB) none H2)
def F_look (ds : List PyData) (o : Option PyData) : Prop := ∃ d, ds = [d] ∧ okD d = true ∧ o = if isSource d then some .none else none
/-! ### what is a source is one by its tree -/
theorem isSum_dec : ∀ (n : Nat) (d : PyData), isSum n d = true → ∃ s : Sm, d = s.enc ∧ s.good = true ∧ s.depth ≤ n := by
  intro n
  induction n with
  | zero =>
    intro d h
    cases d with
    | str s => exact ⟨.nm s, rfl, by unfold isSum at h; exact h, Nat.zero_le _⟩
    | int i => exact ⟨.num i, rfl, by unfold isSum isWithin at h; exact h, Nat.zero_le _⟩
    | tuple ds => simp [isSum] at h
    | _ => simp [isSum, isWithin] at h
  | succ n ih =>
    intro d h
    cases d with
    | str s => exact ⟨.nm s, rfl, by unfold isSum at h; exact h, Nat.zero_le _⟩
    | int i => exact ⟨.num i, rfl, by unfold isSum isWithin at h; exact h, Nat.zero_le _⟩
    | tuple ds =>
      match ds with
      | .str w :: r =>
        have h : (sumHead w (r.length + 1) && r.all (isSum n)) = true := h
        rw [Bool.and_eq_true] at h
        obtain ⟨h1, h2⟩ := h
        unfold sumHead at h1
        rw [Bool.or_eq_true, Bool.and_eq_true, Bool.and_eq_true] at h1
        rcases h1 with ⟨hw, hl⟩ | ⟨hw, hl⟩
        · match r with
          | [a, b] =>
            simp only [List.all_cons, List.all_nil, Bool.and_true, Bool.and_eq_true] at h2
            obtain ⟨sa, rfl, ga, da⟩ := ih a h2.1
            obtain ⟨sb, rfl, gb, db⟩ := ih b h2.2
            refine ⟨.op w sa sb, rfl, ?_, ?_⟩
            · show (decide (w ∈ wordsS) && (sa.good && sb.good)) = true
              rw [hw, ga, gb] <;> rfl
            · show max sa.depth sb.depth + 1 ≤ n + 1
              omega
          | [] => simp at hl
          | [_] => simp at hl
          | _ :: _ :: _ :: _ => simp at hl <;> omega
        · have ew : w = "if" := of_decide_eq_true hw
          subst ew
          match r with
          | [a, b, c] =>
            simp only [List.all_cons, List.all_nil, Bool.and_true, Bool.and_eq_true] at h2
            obtain ⟨sa, rfl, ga, da⟩ := ih a h2.1
            obtain ⟨sb, rfl, gb, db⟩ := ih b h2.2.1
            obtain ⟨sc, rfl, gc, dc⟩ := ih c h2.2.2
            refine ⟨.ite sa sb sc, rfl, ?_, ?_⟩
            · show (sa.good && (sb.good && sc.good)) = true
              rw [ga, gb, gc] <;> rfl
            · show max sa.depth (max sb.depth sc.depth) + 1 ≤ n + 1
              omega
          | [] => simp at hl
          | [_] => simp at hl
          | [_, _] => simp at hl
          | _ :: _ :: _ :: _ :: _ => simp at hl <;> omega
      | [] => simp [isSum] at h
      | .none :: _ => simp [isSum] at h
      | .bool _ :: _ => simp [isSum] at h
      | .int _ :: _ => simp [isSum] at h
      | .list _ :: _ => simp [isSum] at h
      | .tuple _ :: _ => simp [isSum] at h
      | .dict _ :: _ => simp [isSum] at h
    | _ => simp [isSum, isWithin] at h
theorem isRow_dec (d : PyData) (h : isRow d = true) : ∃ r : Rw, d = r.enc ∧ r.good = true := by
  unfold isRow at h
  split at h
  · rename_i w a
    rw [Bool.and_eq_true] at h
    have ew : w = "show" := of_decide_eq_true h.1
    subst ew
    obtain ⟨s, rfl, g, dp⟩ := isSum_dec 6 a h.2
    refine ⟨.shw s, rfl, ?_⟩
    show (s.good && decide (s.depth ≤ 6)) = true
    rw [g, decide_eq_true dp] <;> rfl
  · rename_i w y a
    rw [Bool.and_eq_true, Bool.and_eq_true] at h
    have ew : w = "set" := of_decide_eq_true h.1
    subst ew
    obtain ⟨s, rfl, g, dp⟩ := isSum_dec 6 a h.2.2
    cases y with
    | str x =>
      refine ⟨.set x s, rfl, ?_⟩
      show (nameS x && (s.good && decide (s.depth ≤ 6))) = true
      have hx : nameS x = true := h.2.1
      rw [hx, g, decide_eq_true dp] <;> rfl
    | _ => have z := h.2.1; simp [isName] at z
  · cases h
theorem isSource_dec (d : PyData) (h : isSource d = true) : ∃ src : Src, d = encS src ∧ goodS src = true := by
  cases d with
  | tuple rs =>
    have h : (decide (rs.length ≤ 8) && rs.all isRow) = true := h
    rw [Bool.and_eq_true, List.all_eq_true] at h
    have key : ∀ l : List PyData, (∀ d ∈ l, isRow d = true) → ∃ src : Src, l = src.map Rw.enc ∧ ∀ r ∈ src, r.good = true := by
      intro l
      induction l with
      | nil => intro _; exact ⟨[], rfl, fun _ z => by cases z⟩
      | cons d l ih =>
        intro hl
        obtain ⟨src, rfl, hs⟩ := ih fun q hq => hl q (List.mem_cons_of_mem _ hq)
        obtain ⟨r, rfl, hr⟩ := isRow_dec d (hl d (List.mem_cons_self ..))
        exact ⟨r :: src, rfl, fun q hq => by
          rcases List.mem_cons.mp hq with rfl | hq
          · exact hr
          · exact hs q hq⟩
    obtain ⟨src, rfl, hs⟩ := key rs h.2
    refine ⟨src, rfl, ?_⟩
    unfold goodS
    rw [Bool.and_eq_true, List.all_eq_true]
    have h1 := of_decide_eq_true h.1
    rw [List.length_map] at h1
    exact ⟨decide_eq_true h1, hs⟩
  | _ => simp [isSource] at h
def F_sets (ds : List PyData) (o : Option PyData) : Prop := ∃ d, ds = [d] ∧ okD d = true ∧ ((∃ src, d = encS src ∧ goodS src = true ∧ o = some (.list ((sortU (setsOf src)).map PyData.str))) ∨ (isSource d = false ∧ o = none))
def F_reads (ds : List PyData) (o : Option PyData) : Prop := ∃ d, ds = [d] ∧ okD d = true ∧ ((∃ src, d = encS src ∧ goodS src = true ∧ o = some (.list ((readsOf src).map PyData.str))) ∨ (isSource d = false ∧ o = none))
theorem setsOf_len (src : Src) : (setsOf src).length ≤ src.length := by
  induction src with
  | nil => exact Nat.le_refl _
  | cons r src ih =>
    show (r.sets ++ setsOf src).length ≤ src.length + 1
    rw [List.length_append]
    have : r.sets.length ≤ 1 := by cases r <;> simp [Rw.sets]
    omega
section
variable {K : Frag} {σ : L2.St} {H0 H : Hp} {ta : TA} {D : Ends} {cB : Addr} {E : XK} {tw : TS} {F : List PyData → Option PyData → Prop}
/-- f(..) as a statement, f may refuse -/
theorem s_callX {ds : List PyData} {o : Option PyData} (h : EvDs K ta σ H0 ds) (x : Ex H0 H) (hf : F ds o) (k1 : ∀ d, o = some d → ∀ H1, Ex H H1 → D.nx σ H1) (k2 : o = none → ∀ H1, Ex H H1 → E (.ref cB) none H1) : tDrop (tCall (spDX K cB F) [] E ta) D σ H :=
  h H x _ fun vs H2 A g hd => ⟨ds, o, A, g.d2, by rw [List.append_nil]; exact hd, hf, fun d e v H3 B g3 _ => k1 d e H3 (g.ex.trans g3.ex), fun e H3 e3 => k2 e H3 (g.ex.trans e3)⟩
end
end LC

namespace LC
open PySem PySem.Spec PyProof.Rows L2 Evl
/-! ### one step behind the other: the base moves on -/
section
variable {K : Frag} {H0 H H1 H2 Hd Hd2 A Hs H' : Hp} {d : PyData} {Q : VK} {p : Addr} {out : List PyData} {σ : L2.St} {te : TE} {ta : TA} {D : Ends} {tu : TS} {i j : Nat}
theorem Gr.seq (g1 : Gr H0 H H1 Hd) (g2 : Gr Hd H1 H2 Hd2) : Gr H0 H H2 Hd2 := ⟨g1.ex.trans g2.ex, g1.xd.trans g2.xd, g2.d2, fun a h0 h1 => g2.fr a (g1.fr a h0 h1) (ne_none g1.ex h1)⟩
theorem Gr.refl (x : Ex H0 H) : Gr H0 H H H0 := Gr.base x (Ex.refl H)
theorem Rt.seq (k : Rt K H0 H d Q) (g : Gr H0 H H1 Hd) : Rt K Hd H1 d Q := fun v H2 Hd2 g2 => k v H2 Hd2 (g.seq g2)
theorem Acc.debase (a : Acc K Hd Hs p out H2) (g : Gr A H' H1 Hd) (x : Ex Hs H') : Acc K A Hs p out H2 := by
  obtain ⟨x0, B, acc, h1, h2, h3, h4, h5, h6⟩ := a
  exact ⟨x0, B, acc, h1, g.xd.trans h2, h3, h4, fun b hb hn => h5 b (g.fr b hb (ne_none x hn)) hn, h6⟩
theorem Acc.own (a : Acc K A Hs p out H') : H' p ≠ none := by
  obtain ⟨acc, q, _⟩ := a.at
  rw [q]
  exact fun z => nomatch z
/-- for k in range(n) -/
theorem s_forN {n : Nat} (h : EvDs K ta σ H0 [.int (n : Int)]) (x : Ex H0 H) (hn : n ≤ 100000) (Pv : Nat → L2.St → Hp → Prop) (h0 : ∀ H1, Ex H H1 → Pv 0 σ H1)
    (hs : ∀ (i : Nat) σ' H', i < n → Pv i σ' H' → tu { D with nx := Pv (i + 1), ct := Pv (i + 1), bk := D.nx } (σ'.set j (some (.int (i : Int)))) H') (hd : ∀ σ' H', Pv n σ' H' → D.nx σ' H') : tFor (iRng1 ta) (gName j) tu D σ H :=
  h H x _ fun ws H1 A gr hw => by
    obtain ⟨v, rfl, hv⟩ := dts1 hw
    rw [dp_int hv]
    refine ⟨n, rfl, by omega, by omega, for_range (lo := 0) (n := (n : Int).toNat) Pv (h0 H1 gr.ex) (fun i σ' H' hi q => ?_) fun σ' H' q => hd σ' H' (by rw [Int.toNat_natCast] at q; exact q)⟩
    have e0 : (0 : Int) + (i : Int) = (i : Int) := Int.zero_add _
    show tu { D with nx := Pv (i + 1), ct := Pv (i + 1), bk := D.nx } (σ'.set j (some (.int ((0 : Int) + (i : Int))))) H'
    rw [e0]
    exact hs i σ' H' (by omega) q
end
/-! ### the law's own numbers -/
def cellAt (ns : List Int) (k : Int) : Int := ns.getD k.toNat 0
def seedF (s k : Int) : Int := ((s * 1103515245 + 7919 * k + 12345) % 2147483647) ^ 5 % 2147483647
def spLcell (K : Frag) : Sp := fun vs H Q _ => ∃ (a : Addr) (ns : List Int) (k : Int), vs = [.ref a, .int k] ∧ SqL K H a (ns.map V.int) ∧ 0 ≤ k ∧ ns.length ≤ 63 ∧ ∀ H2, Ex H H2 → Q (.int (cellAt ns k)) H2
def F_seed (ds : List PyData) (d : PyData) : Prop := ∃ s k, ds = [.int s, .int k] ∧ d = .int (seedF s k)
def F_pick (ds : List PyData) (d : PyData) : Prop := ∃ s m : Int, ds = [.int s, .int m] ∧ 0 < m ∧ d = .int (s / 97 % m)
def leafs (s : Int) : List Sm := [.num (s / 7 % 10), .num (s / 7 % 4), .num (s / 7 % 10000), .num 0, .nm "a", .nm "b", .nm "c", .nm "wxyz", .nm "a", .nm "b"]
def lawLeaf (s : Int) : Sm := (leafs s).getD (s / 5 % 10).toNat (.num 0)
def lawWords : List Str := ["add", "less", "times", "over", "same", "if", "add"]
def lawWord (s : Int) : Str := lawWords.getD (s / 11 % 7).toNat "add"
def lawSum : Nat → Int → Sm
  | 0, s => lawLeaf s
  | n + 1, s => if s / 97 % 3 = 0 then lawLeaf s else if lawWord s = "if" then .ite (lawSum n (seedF s 0)) (lawSum n (seedF s 1)) (lawSum n (seedF s 2)) else .op (lawWord s) (lawSum n (seedF s 0)) (lawSum n (seedF s 1))
def F_lsum (n : Nat) (ds : List PyData) (d : PyData) : Prop := ∃ s : Int, ds = [.int s, .int (n : Int)] ∧ d = (lawSum n s).enc
theorem mod_lt10 (x m : Int) (h : 0 < m) : 0 ≤ x % m ∧ x % m < m := ⟨Int.emod_nonneg _ (by omega), Int.emod_lt_of_pos _ h⟩
theorem leaf_mem (s : Int) : lawLeaf s ∈ leafs s := by
  unfold lawLeaf
  have h := mod_lt10 (s / 5) 10 (by omega)
  rw [List.getD_eq_getElem?_getD, List.getElem?_eq_getElem (show (s / 5 % 10).toNat < (leafs s).length by show _ < 10; omega)]
  exact List.getElem_mem _
theorem leafs_good (s : Int) : ∀ q ∈ leafs s, q.good = true ∧ q.depth = 0 := by
  intro q hq
  have h1 := mod_lt10 (s / 7) 10 (by omega)
  have h2 := mod_lt10 (s / 7) 4 (by omega)
  have h3 := mod_lt10 (s / 7) 10000 (by omega)
  have na : nameS "a" = true := by decide +kernel
  have nb : nameS "b" = true := by decide +kernel
  have nc : nameS "c" = true := by decide +kernel
  have nw : nameS "wxyz" = true := by decide +kernel
  unfold leafs at hq
  simp only [List.mem_cons, List.not_mem_nil, or_false] at hq
  rcases hq with rfl | rfl | rfl | rfl | rfl | rfl | rfl | rfl | rfl | rfl
  · exact ⟨by show (decide _ && decide _) = true; rw [decide_eq_true h1.1, decide_eq_true (by omega)] <;> rfl, rfl⟩
  · exact ⟨by show (decide _ && decide _) = true; rw [decide_eq_true h2.1, decide_eq_true (by omega)] <;> rfl, rfl⟩
  · exact ⟨by show (decide _ && decide _) = true; rw [decide_eq_true h3.1, decide_eq_true (by omega)] <;> rfl, rfl⟩
  · exact ⟨by decide, rfl⟩
  · exact ⟨na, rfl⟩
  · exact ⟨nb, rfl⟩
  · exact ⟨nc, rfl⟩
  · exact ⟨nw, rfl⟩
  · exact ⟨na, rfl⟩
  · exact ⟨nb, rfl⟩
theorem word_mem (s : Int) : lawWord s ∈ lawWords := by
  unfold lawWord
  have h := mod_lt10 (s / 11) 7 (by omega)
  rw [List.getD_eq_getElem?_getD, List.getElem?_eq_getElem (show (s / 11 % 7).toNat < lawWords.length by show _ < 7; omega)]
  exact List.getElem_mem _
theorem word_good (s : Int) (h : ¬ lawWord s = "if") : lawWord s ∈ wordsS := by
  have q : lawWords.all (fun w => decide (w = "if") || decide (w ∈ wordsS)) = true := by decide +kernel
  have z := List.all_eq_true.mp q _ (word_mem s)
  rw [Bool.or_eq_true] at z
  rcases z with z | z
  · exact absurd (of_decide_eq_true z) h
  · exact of_decide_eq_true z
theorem lawSum_good : ∀ (n : Nat) (s : Int), (lawSum n s).good = true ∧ (lawSum n s).depth ≤ n
  | 0, s => by
    have h := leafs_good s _ (leaf_mem s)
    exact ⟨h.1, by show (lawLeaf s).depth ≤ 0; omega⟩
  | n + 1, s => by
    unfold lawSum
    have ih := fun k => lawSum_good n (seedF s k)
    split
    · have h := leafs_good s _ (leaf_mem s)
      exact ⟨h.1, by omega⟩
    · split
      · refine ⟨?_, ?_⟩
        · show (Sm.good _ && (Sm.good _ && Sm.good _)) = true
          rw [(ih 0).1, (ih 1).1, (ih 2).1] <;> rfl
        · show max _ (max _ _) + 1 ≤ n + 1
          have h0 := (ih 0).2
          have h1 := (ih 1).2
          have h2 := (ih 2).2
          omega
      · rename_i hw
        refine ⟨?_, ?_⟩
        · show (decide _ && (Sm.good _ && Sm.good _)) = true
          rw [decide_eq_true (word_good s hw), (ih 0).1, (ih 1).1] <;> rfl
        · show max _ _ + 1 ≤ n + 1
          have h0 := (ih 0).2
          have h1 := (ih 1).2
          omega
/-! a source drawn -/
def lawMany (s : Int) : Nat := ([s / 7 % 4, 1 + s / 7 % 3, s / 7 % 9].getD (s / 11 % 3).toNat 0).toNat
def lawDeep (s : Int) : Nat := if s / 13 % 9 = 0 then 6 else (s / 7 % 3).toNat
def lawName (s : Int) : Str := (["a", "b", "c", "wxyz"] : List Str).getD (s / 11 % 4).toNat "a"
def lawRow (one : Int) : Rw := if 0 < one / 97 % 3 then .set (lawName one) (lawSum (lawDeep one) (seedF one 1)) else .shw (lawSum (lawDeep one) (seedF one 1))
def lawSource (s : Int) : Src := (List.range (lawMany s)).map fun k : Nat => lawRow (seedF s (20 + (k : Int)))
def F_lsource (ds : List PyData) (d : PyData) : Prop := ∃ s : Int, ds = [.int s] ∧ d = encS (lawSource s)
theorem lawMany_le (s : Int) : lawMany s ≤ 8 := by
  unfold lawMany
  have h1 := mod_lt10 (s / 7) 4 (by omega)
  have h2 := mod_lt10 (s / 7) 3 (by omega)
  have h3 := mod_lt10 (s / 7) 9 (by omega)
  have h := mod_lt10 (s / 11) 3 (by omega)
  have hc : (s / 11 % 3).toNat = 0 ∨ (s / 11 % 3).toNat = 1 ∨ (s / 11 % 3).toNat = 2 := by omega
  rcases hc with e | e | e <;> rw [e] <;> simp <;> omega
theorem lawDeep_le (s : Int) : lawDeep s ≤ 6 := by
  unfold lawDeep
  have h2 := mod_lt10 (s / 7) 3 (by omega)
  split <;> omega
theorem lawName_good (s : Int) : nameS (lawName s) = true := by
  unfold lawName
  have h := mod_lt10 (s / 11) 4 (by omega)
  have hc : (s / 11 % 4).toNat = 0 ∨ (s / 11 % 4).toNat = 1 ∨ (s / 11 % 4).toNat = 2 ∨ (s / 11 % 4).toNat = 3 := by omega
  rcases hc with e | e | e | e <;> rw [e] <;> decide +kernel
theorem lawRow_good (s : Int) : (lawRow s).good = true := by
  have h := lawSum_good (lawDeep s) (seedF s 1)
  have hd := lawDeep_le s
  unfold lawRow
  split
  · show (nameS _ && (Sm.good _ && decide _)) = true
    rw [lawName_good, h.1, decide_eq_true (by omega)] <;> rfl
  · show (Sm.good _ && decide _) = true
    rw [h.1, decide_eq_true (by omega)] <;> rfl
theorem lawSource_good (s : Int) : goodS (lawSource s) = true := by
  unfold goodS lawSource
  rw [List.length_map, List.length_range, decide_eq_true (lawMany_le s), Bool.true_and, List.all_map, List.all_eq_true]
  intro k _
  exact lawRow_good _
theorem getD_atI {α : Type} (l : List α) (m : Int) (x : α) (h : 0 ≤ m) (hl : m < l.length) : atI l m = some (l.getD m.toNat x) := by
  obtain ⟨k, rfl⟩ : ∃ k : Nat, m = (k : Int) := ⟨m.toNat, by omega⟩
  refine atI_nat ?_
  rw [List.getD_eq_getElem?_getD, Int.toNat_natCast, List.getElem?_eq_getElem (by omega)]
  rfl
end LC
namespace LC
open PySem PySem.Spec PyProof.Rows L2 Evl
/-- .. with the def's address told -/
def HasF (P : Program) (w : World) (K : Frag) (mg : Str → Option Value) (base : Heap) (CX : CXT) (k : Nat) (x : Str) (ps : List Str) (sp : Sp) (f : Addr) (fd : FuncData) : Prop :=
  FnOk P w K mg base CX k f fd ps sp ∧ Binds K fd ps [] ∧ PySem.W.keepIn K (.ref f) = true ∧ mg x = some (.ref f)
def FU (F : Nat → List PyData → PyData → Prop) (m : Nat) (ds : List PyData) (d : PyData) : Prop := ∃ n, n ≤ m ∧ F n ds d
section
variable {P : Program} {w : World} {K : Frag} {mg : Str → Option Value} {base : Heap} {x q : Str} {st : Stmt} {f : Addr} {fd : FuncData} {N ps : List Str} {k j : Nat} {CX : CXT} {sp : Sp}
theorem HasF.has (h : HasF P w K mg base CX k x ps sp f fd) : Has P w K mg base CX k x ps sp := ⟨f, fd, h⟩
theorem HasF.union {F : Nat → List PyData → PyData → Prop} (m : Nat) (h : ∀ n, HasF P w K mg base CX (n + j) x ps (spD K (F n)) f fd) : Has P w K mg base CX (m + j) x ps (spD K (FU F m)) := by
  refine ⟨f, fd, ⟨fun vs H Q E z => ?_, fun A outer s H args us vs Q E hr e0 hb hv z => ?_⟩, (h 0).2⟩
  · obtain ⟨ds, d, H0, e, hd, ⟨n, _, hf⟩, hq⟩ := z
    exact (h n).1.len vs H Q E ⟨ds, d, H0, e, hd, hf, hq⟩
  · obtain ⟨ds, d, H0, e, hd, ⟨n, hn, hf⟩, hq⟩ := z
    exact (h n).1.run A outer s H args us vs Q E (hr.mono (by omega)) e0 hb hv ⟨ds, d, H0, e, hd, hf, hq⟩
theorem hasF_d {FF : List PyData → PyData → Prop} (F : FnP K x q st f fd) (g : mg x = some (.ref f)) (b : Binds K fd ps []) (S : FnScope N ps (defScope st)) (hl : ∀ ds d, FF ds d → ds.length = ps.length)
    (hbody : ∀ (cdv : Value) (A : Around) (outer : List Env) (s : Shared) (H : Hp) (vs : List V) (Q : VK) (E : XK) (ds : List PyData) (d : PyData) (H0 : Hp), Room k (A.deeper (envOfC q (defScope st) s.heap.objs.size f cdv)) →
      Ex H0 H → DtAll K H0 vs ds → FF ds d → (∀ v H2 Hd, Gr H0 H H2 Hd → Dt K Hd v d → Q v H2) →
      ∃ t, PSs (cxOf CX0 P w K mg base N q (defScope st) f cdv A outer s H E).nox (defBody st) t ∧ t { nx := fun _ H' => Q .non H', rt := Q } (start N vs) H) : HasF P w K mg base CX0 (k + 1) x ps (spD K FF) f fd := by
  refine ⟨F.ok S (fun vs H Q E h => ?_) (fun cdv A outer s H vs Q E hr h => ?_), b, F.kp, g⟩
  · obtain ⟨ds, d, H0, _, hd, hf, _⟩ := h
    rw [dpAll_len hd]
    exact hl ds d hf
  · obtain ⟨ds, d, H0, e, hd, hf, hq⟩ := h
    obtain ⟨t, ht, r⟩ := hbody cdv A outer s H vs Q E ds d H0 hr e hd hf hq
    exact ⟨t, PSs.nox ht, r⟩
end
end LC

namespace LC
open PySem PySem.Spec PyProof.Rows L2 Evl
section
variable {K : Frag} {σ : L2.St} {H : Hp} {ta : TA} {te : TE} {E : XK} {d : PyData}
theorem evd_callX {cB : Addr} {F : List PyData → Option PyData → Prop} {ds : List PyData} (h : EvDs K ta σ H ds) (hf : F ds (some d)) : EvD K (tCall (spDX K cB F) [] E ta) σ H d := fun H1 e Q q =>
  h H1 e _ fun vs H2 A g hd => ⟨ds, some d, A, g.d2, by rw [List.append_nil]; exact hd, hf, fun d' e' v H3 B g3 hv => q v H3 B (g.seq g3) (by cases e'; exact hv), fun z => by cases z⟩
theorem evd_cell {a : Addr} {ns : List Int} {k : Int} {ti : TE} (ha : Ev te σ H (.ref a)) (hk : Ev ti σ H (.int k)) (hS : SqL K H a (ns.map V.int)) (h0 : 0 ≤ k) (hl : ns.length ≤ 63) : EvD K (tCall (spLcell K) [] E (tCons te (tCons ti tNil))) σ H (.int (cellAt ns k)) :=
  evd_i fun H1 e Q q => ha H1 e _ fun H2 e2 => hk H2 (e.trans e2) _ fun H3 e3 => ⟨a, ns, k, rfl, ex_l ((e.trans e2).trans e3) hS, h0, hl, fun H4 e4 => q H4 ((e2.trans e3).trans e4)⟩
end
/-! shapes and equality of plain data -/
theorem shaped_of {d : PyData} (ok : okD d = true) (hd : d.depth ≤ 64) : SeqAt.shaped d = true := by
  have key : ∀ d : PyData, okD d = true → d.canLay0 = true := by
    intro d
    refine PyData.rec (motive_1 := fun d => okD d = true → d.canLay0 = true) (motive_2 := fun ds => okD.okAll ds = true → PyData.canLayAll0 ds = true) (motive_3 := fun _ => True) (motive_4 := fun _ => True) ?_ ?_ ?_ ?_ ?_ ?_ ?_ ?_ ?_ ?_ ?_ ?_ d
    · intro _; rfl
    · intro _ _; rfl
    · intro _ _; rfl
    · intro s h
      unfold okD at h
      unfold PyData.canLay0
      exact (Bool.and_eq_true_iff.mp h).2
    · intro ds ih h
      unfold okD at h
      unfold PyData.canLay0
      exact ih h
    · intro ds ih h
      unfold okD at h
      unfold PyData.canLay0
      exact ih h
    · intro _ _ h
      simp [okD] at h
    · intro _; rfl
    · intro d ds ih1 ih2 h
      unfold okD.okAll at h
      rw [Bool.and_eq_true] at h
      unfold PyData.canLayAll0
      rw [ih1 h.1, ih2 h.2] <;> rfl
    · trivial
    · intros; trivial
    · intros; trivial
  show (d.canLay0 && decide (d.depth ≤ 64)) = true
  rw [key d ok, decide_eq_true hd] <;> rfl
theorem depthAll_le : ∀ {ds : List PyData} {n : Nat}, (∀ d ∈ ds, d.depth ≤ n) → PyData.depthAll ds ≤ n
  | [], n, _ => by unfold PyData.depthAll; omega
  | d :: ds, n, h => by
    unfold PyData.depthAll
    have h1 := h d (List.mem_cons_self ..)
    have h2 := depthAll_le (ds := ds) (n := n) fun q hq => h q (List.mem_cons_of_mem _ hq)
    omega
theorem depth_list {ds : List PyData} {n : Nat} (h : ∀ d ∈ ds, d.depth ≤ n) : (PyData.list ds).depth ≤ n + 1 := by
  have := depthAll_le h
  unfold PyData.depth
  omega
theorem depth_tuple {ds : List PyData} {n : Nat} (h : ∀ d ∈ ds, d.depth ≤ n) : (PyData.tuple ds).depth ≤ n + 1 := by
  have := depthAll_le h
  unfold PyData.depth
  omega
theorem Sm.enc_depth : ∀ s : Sm, s.enc.depth ≤ s.depth
  | .num _ => by unfold Sm.enc PyData.depth; omega
  | .nm _ => by unfold Sm.enc PyData.depth; omega
  | .op w a b => by
    have h1 := Sm.enc_depth a
    have h2 := Sm.enc_depth b
    refine depth_tuple (n := max a.depth b.depth) fun d hd => ?_
    simp only [List.mem_cons, List.not_mem_nil, or_false] at hd
    rcases hd with rfl | rfl | rfl
    · unfold PyData.depth; omega
    · omega
    · omega
  | .ite a b c => by
    have h1 := Sm.enc_depth a
    have h2 := Sm.enc_depth b
    have h3 := Sm.enc_depth c
    refine depth_tuple (n := max a.depth (max b.depth c.depth)) fun d hd => ?_
    simp only [List.mem_cons, List.not_mem_nil, or_false] at hd
    rcases hd with rfl | rfl | rfl | rfl
    · unfold PyData.depth; omega
    · omega
    · omega
    · omega
theorem Rw.enc_depth {r : Rw} (h : r.good = true) : r.enc.depth ≤ 7 := by
  have g := Rw.good_sum h
  have hs := Sm.enc_depth r.sum
  cases r with
  | set x s =>
    refine depth_tuple (n := 6) fun d hd => ?_
    simp only [List.mem_cons, List.not_mem_nil, or_false] at hd
    rcases hd with rfl | rfl | rfl
    · unfold PyData.depth; omega
    · unfold PyData.depth; omega
    · exact Nat.le_trans hs g.2
  | shw s =>
    refine depth_tuple (n := 6) fun d hd => ?_
    simp only [List.mem_cons, List.not_mem_nil, or_false] at hd
    rcases hd with rfl | rfl
    · unfold PyData.depth; omega
    · exact Nat.le_trans hs g.2
theorem src_depth {src : Src} (h : goodS src = true) : (encS src).depth ≤ 8 := depth_tuple (n := 7) fun d hd => by
  obtain ⟨r, hr, rfl⟩ := List.mem_map.mp hd
  exact Rw.enc_depth (goodS_row h hr)
theorem src_shaped {src : Src} (h : goodS src = true) : SeqAt.shaped (encS src) = true := shaped_of (ok_src src h) (Nat.le_trans (src_depth h) (by decide))
theorem shaped_strs {l : List Str} (h : ∀ x ∈ l, nameS x = true) : SeqAt.shaped (.list (l.map PyData.str)) = true := by
  refine shaped_of (ok_lst_of fun d hd => ?_) (Nat.le_trans (depth_list (n := 0) fun d hd => ?_) (by decide))
  · obtain ⟨x, hx, rfl⟩ := List.mem_map.mp hd
    exact ok_of_name (h x hx)
  · obtain ⟨x, hx, rfl⟩ := List.mem_map.mp hd
    unfold PyData.depth
    omega
theorem names_good : ∀ (s : Sm), s.good = true → ∀ x ∈ s.names, nameS x = true
  | .num _, _, x, hx => by cases hx
  | .nm y, h, x, hx => by
    have e : x = y := by simpa [Sm.names] using hx
    rw [e]
    exact h
  | .op w a b, h, x, hx => by
    have h : (decide (w ∈ wordsS) && (a.good && b.good)) = true := h
    simp only [Bool.and_eq_true] at h
    have hx : x ∈ a.names ++ b.names := hx
    rcases List.mem_append.mp hx with q | q
    · exact names_good a h.2.1 x q
    · exact names_good b h.2.2 x q
  | .ite a b c, h, x, hx => by
    have h : (a.good && (b.good && c.good)) = true := h
    simp only [Bool.and_eq_true] at h
    have hx : x ∈ a.names ++ (b.names ++ c.names) := hx
    rcases List.mem_append.mp hx with q | q
    · exact names_good a h.1 x q
    · rcases List.mem_append.mp q with q | q
      · exact names_good b h.2.1 x q
      · exact names_good c h.2.2 x q
theorem addName_mem {ms f : List Str} {x y : Str} (h : y ∈ addName ms f x) : y ∈ f ∨ y = x := by
  unfold addName at h
  split at h
  · exact .inl h
  · rcases List.mem_append.mp h with q | q
    · exact .inl q
    · exact .inr (by simpa using q)
theorem foldl_addName_mem (ms : List Str) : ∀ (l f : List Str) (y : Str), y ∈ l.foldl (addName ms) f → y ∈ f ∨ y ∈ l
  | [], f, y, h => .inl h
  | x :: l, f, y, h => by
    rcases foldl_addName_mem ms l (addName ms f x) y h with q | q
    · rcases addName_mem q with q | q
      · exact .inl q
      · exact .inr (by rw [q]; exact List.mem_cons_self ..)
    · exact .inr (List.mem_cons_of_mem _ q)
theorem reads_good (src : Src) (h : ∀ r ∈ src, r.good = true) : ∀ acc : List Str × List Str, (∀ x ∈ acc.1, nameS x = true) → ∀ x ∈ (src.foldl readsGo acc).1, nameS x = true := by
  induction src with
  | nil => intro acc ha; exact ha
  | cons r src ih =>
    intro acc ha
    refine ih (fun q hq => h q (List.mem_cons_of_mem _ hq)) (readsGo acc r) fun x hx => ?_
    rw [readsGo_eq] at hx
    rcases foldl_addName_mem acc.2 _ _ x hx with q | q
    · exact ha x q
    · exact names_good _ (Rw.good_sum (h r (List.mem_cons_self ..))).1 x q
theorem readsOf_good {src : Src} (h : goodS src = true) : ∀ x ∈ readsOf src, nameS x = true := reads_good src (fun r hr => goodS_row h hr) ([], []) fun x hx => by cases hx
theorem mine_eq (src : Src) : ∀ acc : List Str × List Str, (src.foldl readsGo acc).2 = acc.2 ++ setsOf src := by
  induction src with
  | nil => intro acc; simp [setsOf]
  | cons r src ih =>
    intro acc
    rw [List.foldl_cons, ih (readsGo acc r), readsGo_eq]
    simp [setsOf]
theorem setsOf_good {src : Src} (h : goodS src = true) : ∀ x ∈ setsOf src, nameS x = true := fun x hx => by
  obtain ⟨r, hr, hx⟩ := List.mem_flatMap.mp hx
  have g := goodS_row h hr
  cases r with
  | set y s =>
    have e : x = y := by simpa [Rw.sets] using hx
    have g : (nameS y && (s.good && decide (s.depth ≤ 6))) = true := g
    rw [Bool.and_eq_true] at g
    rw [e]
    exact g.1
  | shw s => cases hx
theorem sortU_mem {x : Str} {xs : List Str} : x ∈ sortU xs ↔ x ∈ xs := by
  unfold sortU
  rw [(List.mergeSort_perm _ _).mem_iff, mem_nub]
def spLaw (K : Frag) : Sp := fun vs H Q _ => ∃ (a : Addr) (ns : List Int), vs = [.ref a] ∧ SqL K H a (ns.map V.int) ∧ ns.length ≤ 63 ∧ ∀ H', Q (.bl true) H'
def isShowD : PyData → Bool
  | .tuple (.str w :: _) => w == "show"
  | _ => false
def Rw.isShw : Rw → Bool
  | .shw _ => true
  | .set _ _ => false
theorem isShowD_enc (r : Rw) : isShowD r.enc = r.isShw := by
  cases r with
  | set x s =>
    show (("set" : Str) == "show") = false
    decide +kernel
  | shw s => rfl
theorem shows_data (src : Src) : ((src.map Rw.enc).filter isShowD).map id = (src.filter Rw.isShw).map Rw.enc := by
  rw [List.map_id, List.filter_map]
  congr 1
  refine List.filter_congr fun r _ => ?_
  exact isShowD_enc r
theorem shows_good {src : Src} (h : goodS src = true) : goodS (src.filter Rw.isShw) = true := by
  unfold goodS at h ⊢
  simp only [Bool.and_eq_true, decide_eq_true_eq, List.all_eq_true] at h ⊢
  exact ⟨Nat.le_trans (List.length_filter_le _ _) h.1, fun r hr => h.2 r (List.mem_filter.mp hr).1⟩
theorem shows_sets (src : Src) : setsOf (src.filter Rw.isShw) = [] := by
  unfold setsOf
  rw [List.flatMap_eq_nil_iff]
  intro r hr
  have h := (List.mem_filter.mp hr).2
  cases r with
  | set x s => cases h
  | shw s => rfl
theorem ev_isShow {K : Frag} {σ : L2.St} {H : Hp} {te : TE} {r : Rw} (h : EvD K te σ H r.enc) : Ev (tOp (rEqD K) (tOp (rIx K) te (tC (.int 0))) (tC (.str "show"))) σ H (.bl (isShowD r.enc)) := by
  cases r with
  | set x s => exact ev_is (ev_eq (evd_ixT (d := .str "set") h evd_int (atI_0 _ _)) evd_str (by decide +kernel) (by decide +kernel)) rfl
  | shw s => exact ev_is (ev_eq (evd_ixT (d := .str "show") h evd_int (atI_0 _ _)) evd_str (by decide +kernel) (by decide +kernel)) rfl
end LC

namespace LC
open PySem PySem.Spec PyProof.Rows L2 Evl
section
variable {P : Program} {w : World} {K : Frag} {mg : Str → Option Value} {base : Heap} {x q : Str} {st : Stmt} {f : Addr} {fd : FuncData} {N ps : List Str} {k : Nat} {sp : Sp}
theorem hasF_p (F : FnP K x q st f fd) (g : mg x = some (.ref f)) (b : Binds K fd ps []) (S : FnScope N ps (defScope st)) (len : ∀ vs H Q E, sp vs H Q E → vs.length = ps.length)
    (hbody : ∀ (cdv : Value) (A : Around) (outer : List Env) (s : Shared) (H : Hp) (vs : List V) (Q : VK) (E : XK), Room k (A.deeper (envOfC q (defScope st) s.heap.objs.size f cdv)) → sp vs H Q E →
      ∃ t, PSs (cxOf CX0 P w K mg base N q (defScope st) f cdv A outer s H E).nox (defBody st) t ∧ t { nx := fun _ H' => Q .non H', rt := Q } (start N vs) H) : HasF P w K mg base CX0 (k + 1) x ps sp f fd :=
  ⟨F.ok S len (fun cdv A outer s H vs Q E hr h => by
    obtain ⟨t, ht, r⟩ := hbody cdv A outer s H vs Q E hr h
    exact ⟨t, PSs.nox ht, r⟩), b, F.kp, g⟩
end
theorem map_strs (K : Frag) (xs : List Str) : (xs.map He.Dv.str).map (He.Dv.v K) = xs.map V.str := by rw [List.map_map] <;> rfl
theorem tup_strs {K : Frag} {x : Str} (xs : List Str) (h : He.tupB K x (xs.map He.Dv.str) = true) (H : Hp) : Dt K H (.ref (He.ga K x)) (.tuple (xs.map PyData.str)) := by
  refine .tup (xs := xs.map V.str) ?_ (dt_strs xs)
  rw [← map_strs K]
  exact He.tupB_ok h H
end LC

namespace LC
open PySem PySem.Spec PyProof.Rows L2 Evl
/-! ### a def that may raise, called in a try -/
section
variable {X : Cx} {CX : CXT} {k j : Nat} {x : Str} {ps : List Str} {sp : Sp} {E : L2.St → XK} {p pos : Pos} {e : Expr} {es : List Expr} {t : TA}
theorem pe_hasS (F : Has X.prog X.w X.K X.mg X.base CX k x ps sp) (hr : Room j X.A) (hk : k ≤ j) (hg : Gl X x) (hx : ∀ σ, PassesAt CX X σ (E σ)) (ha : PA X (e :: es) t) (hdb : (x == ("__debug__" : Str)) = false := by decide)
    (he : starEach (e :: es) X.env = (false, eval e X.env) :: starEach es X.env := by rfl) (hpl : (backTo pos (starEach es X.env)).any (·.1) = false := by rfl) : PE X (.Call (.Name x p) (e :: es) [] pos) (tCallS sp E t) := by
  obtain ⟨f, fd, G, b, kp, m⟩ := F
  exact pe_callS G (hr.mono hk) hg m kp b hx ha hdb he hpl
end
section
variable {K : Frag} {σ : L2.St} {H H0 H1 H' : Hp} {ta tb tc te : TE} {D : Ends} {d : PyData}
theorem ev_notIs {a b : Bool} (ha : EvD K ta σ H (.bool a)) (hb : EvD K tb σ H (.bool b)) : Ev (tOp rNotB ta tb) σ H (.bl (!decide (a = b))) := ev_opd ha hb fun x y H1 hx hy Q q => ⟨a, b, dp_bool hx, dp_bool hy, q⟩
theorem ev_isB {a b : Bool} (ha : EvD K ta σ H (.bool a)) (hb : EvD K tb σ H (.bool b)) : Ev (tOp rIsB ta tb) σ H (.bl (decide (a = b))) := ev_opd ha hb fun x y H1 hx hy Q q => ⟨a, b, dp_bool hx, dp_bool hy, q⟩
abbrev rLeS : R2 := fun x y H Q => ∃ i j, x = .str i ∧ y = .str j ∧ Q (.bl (!decide (j.cps.toList < i.cps.toList))) H
theorem kLeS {X : Cx} : OpR X (compareOp .LtE) rLeS := op_le_str
theorem ev_chainS {i j k : Str} (ha : EvD K ta σ H (.str i)) (hb : EvD K tb σ H (.str j)) (hc : EvD K tc σ H (.str k)) :
    Ev (tChain rLeS rLeS ta tb tc) σ H (.bl (!decide (j.cps.toList < i.cps.toList) && !decide (k.cps.toList < j.cps.toList))) := fun H1 e Q hq =>
  ev_str ha H1 e _ fun H2 e2 => ev_str hb H2 (e.trans e2) _ fun H3 e3 => ⟨i, j, rfl, rfl, _, rfl, by
    cases hp : !decide (j.cps.toList < i.cps.toList) with
    | true =>
      show tc σ H3 _
      refine ev_str hc H3 ((e.trans e2).trans e3) _ fun H4 e4 => ⟨j, k, rfl, rfl, ?_⟩
      have := hq H4 ((e2.trans e3).trans e4)
      rw [hp] at this
      exact this
    | false =>
      show Q (.bl false) H3
      have := hq H3 (e2.trans e3)
      rw [hp] at this
      exact this⟩
theorem Rt.retB {b : Bool} (k : Rt K H0 H (.bool b) D.rt) (x : Ex H0 H) (e : Ex H H1) (h : EvD K te σ H1 d) (hd : d = .bool b) : tRet te D σ H1 := by
  subst hd
  exact h H1 (Ex.refl _) _ fun v H2 Hd g hd => k v H2 H0 (Gr.base x (e.trans g.ex)) (by rw [dp_bool hd]; exact .bl b)
end
/-! ### the law's own words of a source -/
def sizesK : List (Key × V) := [(.inr "add", .int 3), (.inr "less", .int 3), (.inr "times", .int 3), (.inr "over", .int 3), (.inr "same", .int 3), (.inr "if", .int 4)]
abbrev sizesT : List (TE × TE) := [(tC (.str "add"), tC (.int 3)), (tC (.str "less"), tC (.int 3)), (tC (.str "times"), tC (.int 3)), (tC (.str "over"), tC (.int 3)), (tC (.str "same"), tC (.int 3)), (tC (.str "if"), tC (.int 4))]
theorem sizesK_merge : mergeK [] sizesK = sizesK := by decide +kernel
theorem s_sizes {D : Ends} {σ : L2.St} {H : Hp} {i : Nat} (k : ∀ p H1, Ex H H1 → H1 p = some (.dK sizesK) → D.nx (σ.set i (some (.ref p))) H1) : tAsg (tDisp sizesT) (gName i) D σ H := by
  intro p hp
  refine ⟨upd_same, sizesK, rfl, by decide, ?_⟩
  rw [sizesK_merge]
  exact k p _ (ex_upd (ex_upd (Ex.refl H) hp) hp) upd_same
def sizeOf (w : Str) : Int := if w ∈ wordsS then 3 else if w = "if" then 4 else 0
theorem sizes_val (w : Str) : (valV sizesK (.inr w)).getD (.int 0) = .int (sizeOf w) := by
  have key : ∀ z : Str, z = w ∨ ¬ z = w := fun z => Classical.em _
  unfold sizeOf wordsS
  by_cases h1 : w = "add"
  · subst h1; decide +kernel
  by_cases h2 : w = "less"
  · subst h2; decide +kernel
  by_cases h3 : w = "times"
  · subst h3; decide +kernel
  by_cases h4 : w = "over"
  · subst h4; decide +kernel
  by_cases h5 : w = "same"
  · subst h5; decide +kernel
  by_cases h6 : w = "if"
  · subst h6; decide +kernel
  have e : valV sizesK (.inr w) = none := by
    unfold sizesK
    rw [valV_neg, valV_neg, valV_neg, valV_neg, valV_neg, valV_neg]
    · rfl
    all_goals
      intro z
      have z := Sum.inr.inj z
      simp_all
  rw [e]
  simp [h1, h2, h3, h4, h5, h6]
theorem size_head (w : Str) (n : Nat) : (((n + 1 : Nat) : Int) == sizeOf w) = sumHead w (n + 1) := by
  unfold sizeOf sumHead
  by_cases h1 : w ∈ wordsS
  · have h2 : ¬ w = "if" := fun z => noIf (z ▸ h1)
    rw [if_pos h1, decide_eq_true h1, decide_eq_false h2, Bool.eq_iff_iff]
    simp
    omega
  · rw [if_neg h1, decide_eq_false h1]
    by_cases h2 : w = "if"
    · rw [if_pos h2, decide_eq_true h2, Bool.eq_iff_iff]
      simp
      omega
    · rw [if_neg h2, decide_eq_false h2, Bool.eq_iff_iff]
      simp
      omega
section
variable {K : Frag} {σ : L2.St} {H : Hp} {ty : TE} {w : Str} {i : Nat} {p : Addr}
theorem ev_sizeGet (hs : σ[i]? = some (some (.ref p))) (hp : H p = some (.dK sizesK)) (hw : EvD K ty σ H (.str w)) : Ev (tDGet2 (tVar i) ty (tC (.int 0))) σ H (.int (sizeOf w)) := fun H1 e Q q => by
  refine ⟨.ref p, hs, p, rfl, .inl ⟨_, .inl (e _ _ hp)⟩, ?_⟩
  refine hw H1 e _ fun v H2 Hd g hd => ?_
  rw [dp_str hd]
  have h2 : H2 p = some (.dK sizesK) := g.ex _ _ (e _ _ hp)
  refine ⟨_, DGet.k (k := .inr w) h2, ?_⟩
  rw [sizes_val]
  exact q H2 g.ex
end
/-- signs of a to z -/
theorem small_le (c : Nat) : (!decide ((⟨#[c]⟩ : Str).cps.toList < ("a" : Str).cps.toList) && !decide (("z" : Str).cps.toList < (⟨#[c]⟩ : Str).cps.toList)) = decide (c ∈ smallS.cps.toList) := by
  have ea : ("a" : Str).cps.toList = [97] := by decide +kernel
  have ez : ("z" : Str).cps.toList = [122] := by decide +kernel
  have es : smallS.cps.toList = (List.range 26).map (· + 97) := by decide +kernel
  rw [ea, ez, es]
  show (!decide ([c] < [97]) && !decide ([122] < [c])) = _
  rw [Bool.eq_iff_iff]
  simp only [Bool.and_eq_true, Bool.not_eq_true', decide_eq_false_iff_not, decide_eq_true_eq, List.mem_map, List.mem_range]
  have l1 : ([c] < [97]) ↔ c < 97 := by simp [List.cons_lt_cons_iff]
  have l2 : ([122] < [c]) ↔ 122 < c := by simp [List.cons_lt_cons_iff]
  rw [l1, l2]
  constructor
  · intro h
    exact ⟨c - 97, by omega, by omega⟩
  · rintro ⟨a, ha, rfl⟩
    omega
def barred7 : List Str := ["add", "less", "over", "same", "if", "set", "show"]
theorem name7 (z : Str) (hl : z.length ≤ 4) : decide (z ∈ barred7) = decide (z ∈ barredS) := by
  have ht : ("times" : Str).length = 5 := by decide +kernel
  have hn : ¬ z = "times" := fun e => by rw [e, ht] at hl; omega
  unfold barred7 barredS
  rw [Bool.eq_iff_iff]
  simp [hn]
def F_kname (ds : List PyData) (d : PyData) : Prop := ∃ z : Str, ds = [.str z] ∧ okD (.str z) = true ∧ d = .bool (nameS z)
def F_ksum (n : Nat) (ds : List PyData) (d : PyData) : Prop := ∃ x, ds = [x, .int (6 - (n : Int))] ∧ okD x = true ∧ x.depth ≤ 60 ∧ d = .bool (isSum n x)
def headOk : PyData → Bool
  | .tuple (h :: _) => flatD h
  | _ => true
def F_ksource (ds : List PyData) (d : PyData) : Prop := ∃ rs x, ds = [x] ∧ (x = .tuple rs ∨ (rs = [] ∧ isT x "tuple" = false)) ∧ okD x = true ∧ x.depth ≤ 60 ∧ (∀ r ∈ rs, headOk r = true) ∧ d = .bool (isSource x)
def F_none (ds : List PyData) (o : Option PyData) : Prop := ∃ d, ds = [d] ∧ okD d = true ∧ isSource d = false ∧ o = none
def F_kof (ds : List PyData) (o : Option PyData) : Prop := ∃ (i : Int) (d : PyData), ds = [.int i, d] ∧ okD d = true ∧ isSource d = false ∧ o = none
def Fnever (ds : List PyData) (d : PyData) : Prop := False
theorem eqv_nil (l : List PyData) : PyData.eqv (.list l) (.list []) = l.isEmpty := by cases l <;> rfl
theorem eqv_unit (l : List PyData) : PyData.eqv (.tuple l) (.tuple []) = l.isEmpty := by cases l <;> rfl
theorem depth_mem {ds : List PyData} {d : PyData} (h : d ∈ ds) : d.depth ≤ PyData.depthAll ds := by
  induction ds with
  | nil => cases h
  | cons e ds ih =>
    unfold PyData.depthAll
    rcases List.mem_cons.mp h with rfl | h
    · exact Nat.le_max_left _ _
    · exact Nat.le_trans (ih h) (Nat.le_max_right _ _)
theorem depth_tup {ds : List PyData} {d : PyData} {n : Nat} (h : (PyData.tuple ds).depth ≤ n) (hd : d ∈ ds) : d.depth ≤ n := by
  unfold PyData.depth at h
  have := depth_mem hd
  omega
end LC
namespace LC
open PySem PySem.Spec PyProof.Rows L2 Evl
section
variable {K : Frag} {σ : L2.St} {H H0 : Hp} {ta tb te : TE} {t : TT} {targs : TA} {D : Ends} {E : XK}
theorem dpAll_rep {vs : List V} {ds : List PyData} (h : DtAll K H vs ds) : ∀ n : Nat, DtAll K H (List.replicate n vs).flatten (List.replicate n ds).flatten
  | 0 => .nil
  | n + 1 => by
    rw [List.replicate_succ, List.replicate_succ, List.flatten_cons, List.flatten_cons]
    exact dpAll_app h (dpAll_rep h n)
theorem evd_mulT {ds : List PyData} {n : Int} (ha : EvD K ta σ H (.tuple ds)) (hb : EvD K tb σ H (.int n)) (h0 : ds ≠ []) (h2 : 2 ≤ n ∧ n ≤ 1000) (hl : ds.length ≤ 1000) : EvD K (tOp (rMulU K) ta tb) σ H (.tuple (List.replicate n.toNat ds).flatten) := evd_op ha hb fun x y H1 A e hx hy Q q => by
  obtain ⟨a, xs, rfl, hs, hall⟩ := dp_tup hx
  rw [dp_int hy]
  have hlen := dpAll_len hall
  refine .inr (.inr ⟨a, n, xs, rfl, rfl, ex_t e hs, ?_, h2.1, h2.2, by omega, fun p hp => q _ _ _ ((Gr.base (Ex.refl A |>.trans e) (Ex.refl H1)).new _ hp) (.tup (st_of upd_same) (dpAll_ex (Ex.new (fresh_back e hp)) _ _ (dpAll_rep hall _)))⟩)
  intro z
  rw [z] at hlen
  exact h0 (List.eq_nil_of_length_eq_zero hlen.symm)
theorem cut_take (ds : List PyData) (n : Nat) (h : n ≤ ds.length) : cutD ds none (some (n : Int)) = ds.take n := by
  have e : HT.sIx ds.length ds.length (some (n : Int)) = n := by
    rw [HT.sIx_nat]
    omega
  unfold cutD
  rw [e, HT.sIx_none]
  simp
theorem cut_drop (ds : List PyData) (n : Nat) (h : n ≤ ds.length) : cutD ds (some (n : Int)) none = ds.drop n := by
  have e : HT.sIx ds.length 0 (some (n : Int)) = n := by
    rw [HT.sIx_nat]
    omega
  unfold cutD
  rw [e, HT.sIx_none]
  rw [List.take_of_length_le]
  rw [List.length_drop]
  omega
/-- an if that is not taken, with nothing behind else -/
theorem s_skip {tu : TS} (h : EvT t σ H0 false) (x : Ex H0 H) (k : ∀ H1, Ex H H1 → D.nx σ H1) : tIfS t tu tNext D σ H := s_ifD h x (fun z => nomatch z) fun _ => k
/-- a call that is refused -/
theorem x_call {cB : Addr} {F : List PyData → Option PyData → Prop} {ds : List PyData} {Q : VK} (h : EvDs K targs σ H0 ds) (x : Ex H0 H) (hf : F ds none) (k : ∀ H1, Ex H H1 → E (.ref cB) none H1) : tCall (spDX K cB F) [] E targs σ H Q :=
  h H x _ fun vs H2 A g hd => ⟨ds, none, A, g.d2, by rw [List.append_nil]; exact hd, hf, fun d e => (nomatch e), fun e H3 e3 => k H3 (g.ex.trans e3)⟩
theorem x_if {b : Bool} {Q : VK} (h : EvT t σ H0 b) (x : Ex H0 H) (k1 : b = true → ∀ H1, Ex H H1 → ta σ H1 Q) (k2 : b = false → ∀ H1, Ex H H1 → tb σ H1 Q) : tIf t ta tb σ H Q := h H x _ fun H2 e2 => by
  cases b with
  | true => exact k1 rfl H2 e2
  | false => exact k2 rfl H2 e2
/-- .. in a try -/
theorem s_tryX {cB : Addr} {F : List PyData → Option PyData → Prop} {ds : List PyData} {ES : L2.St → XK} (h : EvDs K targs σ H0 ds) (x : Ex H0 H) (hf : F ds none) (k : ∀ H1, Ex H H1 → ES σ (.ref cB) none H1) : tDrop (tCallS (spDX K cB F) ES targs) D σ H :=
  h H x _ fun vs H2 A g hd => ⟨ds, none, A, g.d2, hd, hf, fun d e => (nomatch e), fun e H3 e3 => k H3 (g.ex.trans e3)⟩
end
/-! the law's spoilt rows -/
def deepD : Nat → PyData
  | 0 => .str "a"
  | n + 1 => .tuple [.str "add", deepD n, .int 1]
def odd1 : List PyData := [.none, .str "show", .tuple [], .tuple [.str "show"], .tuple [.str "show", .int 1, .int 2], .tuple [.str "set", .str "a"], .tuple [.str "set", .str "if", .int 1], .tuple [.str "set", .str "A", .int 1]]
def odd2 : List PyData := [.tuple [.str "set", .str "abcde", .int 1], .tuple [.str "put", .int 1], .list [.str "show", .int 1], .tuple [.int 1, .int 2], .tuple [.str "show", .int (-1)], .tuple [.str "show", .int 10000], .tuple [.str "show", .bool true]]
def odd3 : List PyData := [.tuple [.str "show", .str "show"], .tuple [.str "show", .tuple [.str "plus", .int 1, .int 2]], .tuple [.str "show", .tuple [.str "add", .int 1]], .tuple [.str "show", .tuple [.str "if", .int 1, .int 2]]]
def odd4 : List PyData := [.tuple [.str "show", .list [.str "add", .int 1, .int 2]], .tuple [.str "show", .tuple []]]
def odd5 : List PyData := [.tuple [.str "show", deepD 7], .tuple [.str "show", .none], .tuple [.str "set", .str "", .int 1]]
def oddD : List PyData := (((odd1 ++ odd2) ++ odd3) ++ odd4) ++ odd5
def rowsOf : PyData → List PyData
  | .tuple ds => ds
  | _ => []
def badOk (d : PyData) : Bool := okD d && (decide (d.depth ≤ 50) && (!isRow d && (headOk d && (rowsOf d).all headOk)))
theorem odd_ok : oddD.all badOk = true := by decide +kernel
theorem deep_ok : isSource (.tuple (List.replicate 8 [PyData.tuple [.str "show", deepD 6]]).flatten) = true := by decide +kernel
theorem odd_len : oddD.length = 24 := by decide +kernel
def badsD (src : Src) (bad : PyData) (k : Nat) : List PyData := [.tuple ((src.map Rw.enc).take k ++ [bad] ++ (src.map Rw.enc).drop k), .list (src.map Rw.enc), bad, .tuple (List.replicate 9 [PyData.tuple [.str "show", .int 1]]).flatten]
theorem badOk_iff {d : PyData} (h : badOk d = true) : okD d = true ∧ d.depth ≤ 50 ∧ isRow d = false ∧ headOk d = true ∧ (rowsOf d).all headOk = true := by
  unfold badOk at h
  simp only [Bool.and_eq_true, decide_eq_true_eq, Bool.not_eq_true'] at h
  exact h
theorem enc_head (r : Rw) : headOk r.enc = true := by cases r <;> rfl
theorem mem_spoilt {src : Src} {bad d : PyData} {k : Nat} (h : d ∈ (src.map Rw.enc).take k ++ [bad] ++ (src.map Rw.enc).drop k) : d = bad ∨ ∃ r ∈ src, d = r.enc := by
  simp only [List.mem_append, List.mem_singleton] at h
  rcases h with (h | h) | h
  · obtain ⟨r, hr, e⟩ := List.mem_map.mp (List.mem_of_mem_take h)
    exact .inr ⟨r, hr, e.symm⟩
  · exact .inl h
  · obtain ⟨r, hr, e⟩ := List.mem_map.mp (List.mem_of_mem_drop h)
    exact .inr ⟨r, hr, e.symm⟩
theorem bads_ok {src : Src} (hg : goodS src = true) {bad : PyData} (hb : badOk bad = true) (k : Nat) : ∀ d ∈ badsD src bad k, okD d = true ∧ d.depth ≤ 60 ∧ ∃ rs, (d = .tuple rs ∨ (rs = [] ∧ isT d "tuple" = false)) ∧ ∀ r ∈ rs, headOk r = true := by
  obtain ⟨b1, b2, b3, b4, b5⟩ := badOk_iff hb
  intro d hd
  unfold badsD at hd
  simp only [List.mem_cons, List.not_mem_nil, or_false] at hd
  rcases hd with rfl | rfl | rfl | rfl
  · refine ⟨ok_tup_of fun d hd => ?_, Nat.le_trans (depth_tuple (n := 50) fun d hd => ?_) (by decide), _, .inl rfl, fun d hd => ?_⟩
    · rcases mem_spoilt hd with rfl | ⟨r, hr, rfl⟩
      · exact b1
      · exact ok_row r (goodS_row hg hr)
    · rcases mem_spoilt hd with rfl | ⟨r, hr, rfl⟩
      · exact b2
      · exact Nat.le_trans (Rw.enc_depth (goodS_row hg hr)) (by decide)
    · rcases mem_spoilt hd with rfl | ⟨r, hr, rfl⟩
      · exact b4
      · exact enc_head r
  · refine ⟨ok_lst_of fun d hd => ?_, Nat.le_trans (depth_list (n := 50) fun d hd => ?_) (by decide), [], .inr ⟨rfl, rfl⟩, fun d hd => (nomatch hd)⟩
    · obtain ⟨r, hr, rfl⟩ := List.mem_map.mp hd
      exact ok_row r (goodS_row hg hr)
    · obtain ⟨r, hr, rfl⟩ := List.mem_map.mp hd
      exact Nat.le_trans (Rw.enc_depth (goodS_row hg hr)) (by decide)
  · refine ⟨b1, Nat.le_trans b2 (by decide), ?_⟩
    cases hT : isT d "tuple" with
    | false => exact ⟨[], .inr ⟨rfl, rfl⟩, fun d hd => (nomatch hd)⟩
    | true =>
      obtain ⟨ds, rfl⟩ := isT_tup hT
      exact ⟨ds, .inl rfl, fun r hr => List.all_eq_true.mp b5 r hr⟩
  · refine ⟨by decide +kernel, by decide +kernel, _, .inl rfl, fun r hr => ?_⟩
    have : (List.replicate 9 [PyData.tuple [.str "show", .int 1]]).flatten.all headOk = true := by decide +kernel
    exact List.all_eq_true.mp this r hr
theorem bads_no {src : Src} {bad : PyData} (hb : badOk bad = true) (k : Nat) : ∀ d ∈ badsD src bad k, d = bad ∨ isSource d = false := by
  obtain ⟨b1, b2, b3, b4, b5⟩ := badOk_iff hb
  intro d hd
  unfold badsD at hd
  simp only [List.mem_cons, List.not_mem_nil, or_false] at hd
  rcases hd with rfl | rfl | rfl | rfl
  · right
    show (decide (_ ≤ 8) && _) = false
    rw [Bool.and_eq_false_iff]
    right
    rw [List.all_eq_false]
    exact ⟨bad, by simp, by rw [b3]; simp⟩
  · exact .inr rfl
  · exact .inl rfl
  · right
    decide +kernel
theorem bads_at {src : Src} {bad : PyData} (hb : badOk bad = true) (k : Nat) (i : Nat) (h : i = 0 ∨ i = 1 ∨ i = 3) : ∃ d, (badsD src bad k)[i]? = some d ∧ isSource d = false := by
  obtain ⟨b1, b2, b3, b4, b5⟩ := badOk_iff hb
  rcases h with rfl | rfl | rfl
  · refine ⟨_, rfl, ?_⟩
    show (decide (_ ≤ 8) && _) = false
    rw [Bool.and_eq_false_iff]
    right
    rw [List.all_eq_false]
    exact ⟨bad, by simp, by rw [b3]; simp⟩
  · exact ⟨_, rfl, rfl⟩
  · exact ⟨_, rfl, by decide +kernel⟩
end LC

namespace LC
open PySem PySem.Spec PyProof.Rows L2 Evl
/-! ### methods -/
def tMet (C : Addr) (m : Str) (sp : Sp) (E : L2.St → XK) (ta : TE) (t : TA) : TE := fun σ H Q => ta σ H fun x H1 => ∃ a dx fs, x = .ref a ∧ H1 a = some (.ins C dx fs) ∧ fs.lookup m = none ∧ t σ H1 fun vs H2 => sp (.ref a :: vs) H2 Q (E σ)
/-- the class at C has a method m that keeps sp -/
def HasM (P : Program) (w : World) (K : Frag) (mg : Str → Option Value) (base : Heap) (CX : CXT) (k : Nat) (C : Addr) (m : Str) (ps : List Str) (sp : Sp) : Prop :=
  ∃ f fd, FnOk P w K mg base CX k f fd ps sp ∧ Binds K fd ps [] ∧ Meth K C m f
/-- the class at C, by the module's name x, is made by an __init__ that keeps sp -/
def HasI (P : Program) (w : World) (K : Frag) (mg : Str → Option Value) (base : Heap) (CX : CXT) (k : Nat) (C : Addr) (x : Str) (ps : List Str) (sp : Sp) : Prop :=
  ∃ f fd, FnOk P w K mg base CX k f fd ps sp ∧ Binds K fd ps [] ∧ Mk K C f ∧ mg x = some (.ref C)
section
variable {X : Cx} {CX : CXT} {k j : Nat} {C : Addr} {x m : Str} {ps : List Str} {sp : Sp} {E : L2.St → XK} {p pos apos : Pos} {e o : Expr} {es : List Expr} {ta : TE} {t : TA}
theorem passA {E : XK} (h : Passes CX X E) : ∀ σ : L2.St, PassesAt CX X σ ((fun _ => E) σ) := fun σ pins H s e s' I c => h pins σ H s e s' I c
theorem pe_hm {pl : Sem Bool} (he : PE X o ta) (c : Cls X.K C) (F : HasM X.prog X.w X.K X.mg X.base CX k C m ps sp) (hr : Room j X.A) (hk : k ≤ j) (hx : ∀ σ, PassesAt CX X σ (E σ)) (ha : PA X (e :: es) t)
    (hst : starEach (e :: es) X.env = (false, eval e X.env) :: starEach es X.env := by rfl) (hpl : (backTo pos (starEach es X.env)).any (·.1) = false := by rfl)
    (ht : eval (.Call (.Attribute o m apos) (e :: es) [] pos) X.env = (do
      let ov ← eval o X.env
      standAt apos.atName
      let (f, first) ← holding [ov] (getMethod ov m pl)
      callWith pos f first (backTo pos (starEach (e :: es) X.env)) (backToKw pos (keywordEach [] X.env))) := by rfl) :
    PE X (.Call (.Attribute o m apos) (e :: es) [] pos) (tMet C m sp E ta t) := by
  obtain ⟨f, fd, G, b, hm⟩ := F
  refine ⟨fun pins s σ H Q I h => ?_⟩
  refine PySem.W.methodCall_KW (pl := pl) (thn (he.run pins s σ H _ I h) fun u s1 ⟨x, H1, I1, rx, a, dx, fs, ex, ea, l, q⟩ => ?_) ht
  subst ex
  obtain rfl : u = Value.ref a := rx
  refine getmeth_ok I1 ea c hm l ?_
  refine PySem.W.callWith_K (first := [.ref a]) (h₀ := X.base) I.ok.mod.kin hm.kp (thn (ha.run pos pins s1 σ H1 _ I1 q) fun us s2 ⟨vs, H2, I2, r, q2⟩ => ⟨I2.kIn, ?_⟩) hst hpl
  exact run_fnS (us := .ref a :: us) (vs := .ref a :: vs) G (hr.mono hk) b (hx σ) I2 (.cons rfl r) q2
theorem pe_hm0 {pl : Sem Bool} (he : PE X o ta) (c : Cls X.K C) (F : HasM X.prog X.w X.K X.mg X.base CX k C m ps sp) (hr : Room j X.A) (hk : k ≤ j) (hx : ∀ σ, PassesAt CX X σ (E σ))
    (ht : eval (.Call (.Attribute o m apos) [] [] pos) X.env = (do
      let ov ← eval o X.env
      standAt apos.atName
      let (f, first) ← holding [ov] (getMethod ov m pl)
      callWith pos f first (backTo pos (starEach [] X.env)) (backToKw pos (keywordEach [] X.env))) := by rfl) :
    PE X (.Call (.Attribute o m apos) [] [] pos) (tMet C m sp E ta tNil) := by
  obtain ⟨f, fd, G, b, hm⟩ := F
  refine ⟨fun pins s σ H Q I h => ?_⟩
  refine PySem.W.methodCall_KW (pl := pl) (thn (he.run pins s σ H _ I h) fun u s1 ⟨x, H1, I1, rx, a, dx, fs, ex, ea, l, q⟩ => ?_) ht
  subst ex
  obtain rfl : u = Value.ref a := rx
  refine getmeth_ok I1 ea c hm l ?_
  exact PySem.W.callWith_K0 (first := [.ref a]) I1.kIn hm.kp (run_fnS (us := [.ref a]) (vs := [.ref a]) G (hr.mono hk) b (hx σ) I1 (.cons rfl .nil) q)
theorem pe_mk {E : XK} (F : HasI X.prog X.w X.K X.mg X.base CX k C x ps sp) (hr : Room j X.A) (hk : k + 1 ≤ j) (hg : Gl X x) (hx : Passes CX X E) (ha : PA X (e :: es) t) (hdb : (x == ("__debug__" : Str)) = false := by decide)
    (he : starEach (e :: es) X.env = (false, eval e X.env) :: starEach es X.env := by rfl) (hpl : (backTo pos (starEach es X.env)).any (·.1) = false := by rfl) : PE X (.Call (.Name x p) (e :: es) [] pos) (tMake C sp [] E t) := by
  obtain ⟨f, fd, G, b, M, m⟩ := F
  exact pe_make M G (hr.mono hk) hg m b .nil hx ha hdb he hpl
theorem pe_mk0 {E : XK} (F : HasI X.prog X.w X.K X.mg X.base CX k C x ps sp) (hr : Room j X.A) (hk : k + 1 ≤ j) (hg : Gl X x) (hx : Passes CX X E) (hdb : (x == ("__debug__" : Str)) = false := by decide) : PE X (.Call (.Name x p) [] [] pos) (tMake C sp [] E tNil) := by
  obtain ⟨f, fd, G, b, M, m⟩ := F
  exact pe_make0 M G (hr.mono hk) hg m b .nil hx hdb
theorem kSetFld {K : Frag} {f : Str} {tv : TE} {value : Expr} {pos' : Pos} (h : X.K = K) (ha : PE X o ta) (hv : PE X value tv) (hs : swapsWith value (some (.Attribute o f pos')) pos.line X.env = pure false := by rfl) : PS X (.Assign [.Attribute o f pos'] value pos) (sFld K ta tv f) := h ▸ ps_fld ha hv hs
theorem kAugFld {K : Frag} {f : Str} {tv : TE} {value : Expr} {pos' : Pos} (h : X.K = K) (ha : PE X o ta) (hv : PE X value tv) : PS X (.AugAssign (.Attribute o f pos') .Add value pos) (sFldAug K ta tv rAdd f) := h ▸ ps_fldaug ha hv in_add
theorem kIndex {K : Frag} (h : X.K = K) : MtR X "list.index" (rIndex K) := h ▸ mt_index
theorem kFld {K : Frag} {f : Str} (h : X.K = K) (he : PE X e ta) (hb : attributeBase e f X.env (eval e X.env) = eval e X.env := by rfl) : PE X (.Attribute e f pos) (tFld K ta f) := h ▸ pe_fld he hb
end
section
variable {P : Program} {w : World} {K : Frag} {mg : Str → Option Value} {base : Heap} {q : Str} {st : Stmt} {f C : Addr} {fd : FuncData} {N ps : List Str} {k : Nat} {sp : Sp} {x m : Str}
theorem hasM_x (F : FnP K x q st f fd) (g : Meth K C m f) (b : Binds K fd ps []) (S : FnScope N ps (defScope st)) (len : ∀ vs H Q E, sp vs H Q E → vs.length = ps.length)
    (hbody : ∀ (cdv : Value) (A : Around) (outer : List Env) (s : Shared) (H : Hp) (vs : List V) (Q : VK) (E : XK), Room k (A.deeper (envOfC q (defScope st) s.heap.objs.size f cdv)) → sp vs H Q E →
      ∃ t, PSs (cxOf (L2.CX P w) P w K mg base N q (defScope st) f cdv A outer s H E) (defBody st) t ∧ t { nx := fun _ H' => Q .non H', rt := Q } (start N vs) H) : HasM P w K mg base (L2.CX P w) (k + 1) C m ps sp :=
  ⟨f, fd, F.ok S len hbody, b, g⟩
theorem hasM_p (F : FnP K x q st f fd) (g : Meth K C m f) (b : Binds K fd ps []) (S : FnScope N ps (defScope st)) (len : ∀ vs H Q E, sp vs H Q E → vs.length = ps.length)
    (hbody : ∀ (cdv : Value) (A : Around) (outer : List Env) (s : Shared) (H : Hp) (vs : List V) (Q : VK) (E : XK), Room k (A.deeper (envOfC q (defScope st) s.heap.objs.size f cdv)) → sp vs H Q E →
      ∃ t, PSs (cxOf CX0 P w K mg base N q (defScope st) f cdv A outer s H E).nox (defBody st) t ∧ t { nx := fun _ H' => Q .non H', rt := Q } (start N vs) H) : HasM P w K mg base CX0 (k + 1) C m ps sp :=
  ⟨f, fd, F.ok S len (fun cdv A outer s H vs Q E hr h => by
    obtain ⟨t, ht, r⟩ := hbody cdv A outer s H vs Q E hr h
    exact ⟨t, PSs.nox ht, r⟩), b, g⟩
theorem hasI_p (F : FnP K "__init__" q st f fd) (M : Mk K C f) (g : mg x = some (.ref C)) (b : Binds K fd ps []) (S : FnScope N ps (defScope st)) (len : ∀ vs H Q E, sp vs H Q E → vs.length = ps.length)
    (hbody : ∀ (cdv : Value) (A : Around) (outer : List Env) (s : Shared) (H : Hp) (vs : List V) (Q : VK) (E : XK), Room k (A.deeper (envOfC q (defScope st) s.heap.objs.size f cdv)) → sp vs H Q E →
      ∃ t, PSs (cxOf CX0 P w K mg base N q (defScope st) f cdv A outer s H E).nox (defBody st) t ∧ t { nx := fun _ H' => Q .non H', rt := Q } (start N vs) H) : HasI P w K mg base CX0 (k + 1) C x ps sp :=
  ⟨f, fd, F.ok S len (fun cdv A outer s H vs Q E hr h => by
    obtain ⟨t, ht, r⟩ := hbody cdv A outer s H vs Q E hr h
    exact ⟨t, PSs.nox ht, r⟩), b, M, g⟩
end
/-! ### a notebook's state -/
structure RecS where
  lines : Src
  asked : List (Str × Option Int)
  shown : List Int
  sets : List (Str × Int)
  why : Option (Str × Option Str)
structure CellS where
  src : Src
  count : Nat
  struck : Bool
  recd : Option RecS
structure NbS where
  row : List Nat
  cell : Nat → CellS
  after : Nat
def encO : Option Int → PyData
  | none => .none
  | some i => .int i
def encN : Option Str → PyData
  | none => .none
  | some x => .str x
def encAsk (p : Str × Option Int) : PyData := .tuple [.str p.1, encO p.2]
def encWhy : Option (Str × Option Str) → PyData
  | none => .none
  | some (w, x) => .tuple [.str w, encN x]
structure NbC where
  N : Addr
  C : Addr
  R : Addr
def RecAt (K : Frag) (T : NbC) (B : Hp) (v : V) : Option RecS → Prop
  | none => v = .non
  | some r => ∃ p dx lv av sv dv wv, v = .ref p ∧ B p = some (.ins T.R dx [("lines", lv), ("asked", av), ("shown", sv), ("sets", .ref dv), ("why", wv)]) ∧ Dt K B lv (encS r.lines) ∧ Dt K B av (.list (r.asked.map encAsk)) ∧
      Dt K B sv (.list (r.shown.map PyData.int)) ∧ B dv = some (.dK (r.sets.map fun q => ((Sum.inr q.1 : Key), V.int q.2))) ∧ Dt K B wv (encWhy r.why)
def CellAt (K : Frag) (T : NbC) (B H : Hp) (p : Addr) (c : CellS) : Prop := ∃ dx lv rv, H p = some (.ins T.C dx [("lines", lv), ("count", .int (c.count : Int)), ("struck", .bl c.struck), ("record", rv)]) ∧ Dt K B lv (encS c.src) ∧ RecAt K T B rv c.recd
structure NbL (K : Frag) (T : NbC) (M : Addr → Prop) (B H : Hp) (nb : Addr) (st : NbS) (dn c r : Addr) (kvs : List (Key × V)) (ad : Nat → Addr) : Prop where
  x : Ex B H
  m : ∀ a, M a → B a = none ∧ H a ≠ none
  hn : H nb = some (.ins T.N dn [("cells", .ref c), ("row", .ref r), ("after", .int (st.after : Int))])
  hc : H c = some (.dK kvs)
  hr : H r = some (.lst (st.row.map fun n : Nat => V.int (n : Int)))
  mn : M nb
  mc : M c
  mr : M r
  kin : ∀ n ∈ st.row, valV kvs (.inl (n : Int)) = some (.ref (ad n))
  kout : ∀ i : Int, (∀ n ∈ st.row, (n : Int) ≠ i) → valV kvs (.inl i) = none
  kl : kvs.length ≤ st.after
  mad : ∀ n ∈ st.row, M (ad n)
  cells : ∀ n ∈ st.row, CellAt K T B H (ad n) (st.cell n)
  inj : ∀ n ∈ st.row, ∀ m ∈ st.row, ad n = ad m → n = m
/-- what is so of every state -/
structure NbG (st : NbS) : Prop where
  good : ∀ n ∈ st.row, goodS (st.cell n).src = true
  lt : ∀ n ∈ st.row, n < st.after
  nd : st.row.Nodup
  len : st.row.length ≤ 30
  few : st.after ≤ 5000
  cnt : ∀ n ∈ st.row, (st.cell n).count ≤ 5000
def NB (K : Frag) (T : NbC) (M : Addr → Prop) (B H : Hp) (nb : Addr) (st : NbS) : Prop := ∃ dn c r kvs ad, NbL K T M B H nb st dn c r kvs ad
/-- what may change: M; new things -/
structure Fr (M M' : Addr → Prop) (B H H' B' : Hp) : Prop where
  fr : ∀ a o, H a = some o → ¬ M a → H' a = some o
  xd : Ex B B'
  d2 : Ex B' H'
  nw : ∀ a, B a = none → H a ≠ none → B' a = none
  mm : ∀ a, M' a → M a ∨ H a = none
  sub : ∀ a, M a → M' a
  stay : ∀ a, H a ≠ none → H' a ≠ none
section
variable {K : Frag} {T : NbC} {M M' M'' : Addr → Prop} {B B' B'' H H' H'' : Hp} {nb : Addr} {st : NbS}
theorem RecAt.mono (e : Ex B B') {v : V} : ∀ {r : Option RecS}, RecAt K T B v r → RecAt K T B' v r
  | none, h => h
  | some r, ⟨p, dx, lv, av, sv, dv, wv, h1, h2, h3, h4, h5, h6, h7⟩ => ⟨p, dx, lv, av, sv, dv, wv, h1, e _ _ h2, dp_ex e _ _ h3, dp_ex e _ _ h4, dp_ex e _ _ h5, e _ _ h6, dp_ex e _ _ h7⟩
theorem CellAt.mono (e : Ex B B') {p : Addr} {c : CellS} (h : CellAt K T B H p c) (hp : ∀ o, H p = some o → H' p = some o) : CellAt K T B' H' p c := by
  obtain ⟨dx, lv, rv, h1, h2, h3⟩ := h
  exact ⟨dx, lv, rv, hp _ h1, dp_ex e _ _ h2, h3.mono e⟩
theorem Fr.of (g : Gr B H H' B') : Fr M M B H H' B' := ⟨fun a o h _ => g.ex a o h, g.xd, g.d2, g.fr, fun a h => .inl h, fun a h => h, fun a h => ne_none g.ex h⟩
theorem Fr.trans (x : Fr M M' B H H' B') (y : Fr M' M'' B' H' H'' B'') : Fr M M'' B H H'' B'' := by
  refine ⟨fun a o h n => y.fr a o (x.fr a o h n) fun z => ?_, x.xd.trans y.xd, y.d2, fun a hb hh => y.nw a (x.nw a hb hh) (x.stay a hh), fun a h => ?_, fun a h => y.sub a (x.sub a h), fun a h => y.stay a (x.stay a h)⟩
  · rcases x.mm a z with z | z
    · exact n z
    · rw [h] at z
      cases z
  · rcases y.mm a h with z | z
    · exact x.mm a z
    · right
      cases q : H a with
      | none => rfl
      | some o => exact absurd z (x.stay a (by rw [q]; exact fun z => nomatch z))
/-- another notebook, apart from what changed -/
theorem NB.apart {N : Addr → Prop} (h : NB K T N B H nb st) (f : Fr M M' B H H' B') (hd : ∀ a, N a → ¬ M a) : NB K T N B' H' nb st := by
  obtain ⟨dn, c, r, kvs, ad, h⟩ := h
  have go : ∀ a o, N a → H a = some o → H' a = some o := fun a o n e => f.fr a o e (hd a n)
  exact ⟨dn, c, r, kvs, ad, f.d2, fun a n => ⟨f.nw a (h.m a n).1 (h.m a n).2, f.stay a (h.m a n).2⟩, go _ _ h.mn h.hn, go _ _ h.mc h.hc, go _ _ h.mr h.hr, h.mn, h.mc, h.mr, h.kin, h.kout, h.kl, h.mad, fun n hn => (h.cells n hn).mono f.xd fun o => go _ _ (h.mad n hn), h.inj⟩
theorem NB.gr (h : NB K T M B H nb st) (g : Gr B H H' B') : NB K T M B' H' nb st := h.apart (M := fun _ => False) (M' := fun _ => False) (Fr.of g) fun _ _ z => z
theorem NB.ex (h : NB K T M B H nb st) (e : Ex H H') : NB K T M B H' nb st := h.gr (Gr.base (by obtain ⟨_, _, _, _, _, h⟩ := h; exact h.x) e)
theorem NB.x (h : NB K T M B H nb st) : Ex B H := by obtain ⟨_, _, _, _, _, h⟩ := h; exact h.x
end
/-- the cell n of the notebook stands at p -/
def CellIs (H : Hp) (nb : Addr) (n : Nat) (p : Addr) : Prop := ∃ C dn c r i kvs, H nb = some (.ins C dn [("cells", .ref c), ("row", .ref r), ("after", .int i)]) ∧ H c = some (.dK kvs) ∧ valV kvs (.inl (n : Int)) = some (.ref p)
/-- cells stand where they stood -/
def Kept (H H' : Hp) (nb : Addr) (row : List Nat) : Prop := ∀ n ∈ row, ∀ p, CellIs H nb n p → CellIs H' nb n p
section
variable {K : Frag} {T : NbC} {M M' : Addr → Prop} {B B' H H' : Hp} {nb dn c r dn' c' r' : Addr} {st st' : NbS} {kvs kvs' : List (Key × V)} {ad ad' : Nat → Addr} {n : Nat} {p : Addr}
theorem NbL.cellIs (L : NbL K T M B H nb st dn c r kvs ad) (hn : n ∈ st.row) : CellIs H nb n (ad n) := ⟨_, _, _, _, _, _, L.hn, L.hc, L.kin n hn⟩
theorem NbL.adOf (L : NbL K T M B H nb st dn c r kvs ad) (h : CellIs H nb n p) : n ∈ st.row ∧ p = ad n := by
  obtain ⟨C, dn2, c2, r2, i2, kvs2, h1, h2, h3⟩ := h
  rw [L.hn] at h1
  cases h1
  rw [L.hc] at h2
  cases h2
  by_cases hn : n ∈ st.row
  · rw [L.kin n hn] at h3
    cases h3
    exact ⟨hn, rfl⟩
  · rw [L.kout n fun m hm e => hn (by have : m = n := by omega
                                      rw [← this]; exact hm)] at h3
    cases h3
theorem Kept.of (L : NbL K T M B H nb st dn c r kvs ad) (L' : NbL K T M' B' H' nb st' dn' c' r' kvs' ad') (h : ∀ n ∈ st'.row, n ∈ st.row → ad' n = ad n) : Kept H H' nb st'.row := fun n hn p hp => by
  obtain ⟨h1, rfl⟩ := L.adOf hp
  rw [← h n hn h1]
  exact L'.cellIs hn
theorem Kept.ex {row : List Nat} (e : Ex H H') : Kept H H' nb row := fun n hn p ⟨C, dn, c, r, i, kvs, h1, h2, h3⟩ => ⟨C, dn, c, r, i, kvs, e _ _ h1, e _ _ h2, h3⟩
end
/-- a promise about a notebook: R tells what comes of it, or which class is raised -/
def spNb (K : Frag) (T : NbC) (R : NbS → List PyData → (PyData ⊕ Addr) → NbS → Prop) : Sp := fun vs H Q E => ∃ M B nb st ws ds o st', vs = .ref nb :: ws ∧ NB K T M B H nb st ∧ NbG st ∧ DtAll K B ws ds ∧ R st ds o st' ∧
  (∀ d, o = .inl d → ∀ v H' B' M', Fr M M' B H H' B' → NB K T M' B' H' nb st' → Kept H H' nb st'.row → Dt K B' v d → Q v H') ∧ (∀ c, o = .inr c → ∀ H' B' M', Fr M M' B H H' B' → NB K T M' B' H' nb st' → E (.ref c) none H')
theorem Kept.trans {H H' H'' : Hp} {nb : Addr} {row row' : List Nat} (x : Kept H H' nb row) (y : Kept H' H'' nb row') (h : ∀ n ∈ row', n ∈ row) : Kept H H'' nb row' := fun n hn p hp => y n hn p (x n (h n hn) p hp)
/-- the classes' facts -/
structure NbT (K : Frag) (T : NbC) : Prop where
  cN : Cls K T.N
  cC : Cls K T.C
  cR : Cls K T.R
  nN : ∀ {f : Str}, f ∈ (["cells", "row", "after"] : List Str) → NoAttr K T.N f
  nC : ∀ {f : Str}, f ∈ (["lines", "count", "struck", "record"] : List Str) → NoAttr K T.C f
  nR : ∀ {f : Str}, f ∈ (["lines", "asked", "shown", "sets", "why"] : List Str) → NoAttr K T.R f
end LC

namespace LC
open PySem PySem.Spec PyProof.Rows L2 Evl
/-! ### readings: attributes, dicts -/
section
variable {K : Frag} {σ : L2.St} {H : Hp} {ta td ty te tv : TE} {D : Ends} {a C dx : Addr} {fs : List (Str × V)} {f : Str} {v y : V} {kvs : List (Key × V)} {k : Key}
theorem ev_fld (h : Ev ta σ H (.ref a)) (ho : H a = some (.ins C dx fs)) (c : Cls K C) (n : NoAttr K C f) (l : fs.lookup f = some v) : Ev (tFld K ta f) σ H v := fun H1 e Q q => h H1 e _ fun H2 e2 => ⟨a, C, dx, fs, v, rfl, e2 _ _ (e _ _ ho), c, n, l, q H2 e2⟩
theorem ev_dget (hd : Ev td σ H (.ref a)) (hy : Ev ty σ H (kV k)) (ha : H a = some (.dK kvs)) (hv : valV kvs k = some v) : Ev (tDGet td ty) σ H v := fun H1 e Q q =>
  hd H1 e _ fun H2 e2 => hy H2 (e.trans e2) _ fun H3 e3 => ⟨a, v, rfl, hv ▸ DGet.k (k := k) (((e.trans e2).trans e3) _ _ ha), q H3 (e2.trans e3)⟩
theorem ev_din (hy : Ev ty σ H (kV k)) (hd : Ev td σ H (.ref a)) (ha : H a = some (.dK kvs)) : Ev (tDIn ty td) σ H (.bl (valV kvs k).isSome) := fun H1 e Q q =>
  hy H1 e _ fun H2 e2 => hd H2 (e.trans e2) _ fun H3 e3 => ⟨a, _, rfl, DGet.k (k := k) (((e.trans e2).trans e3) _ _ ha), q H3 (e2.trans e3)⟩
theorem ev_dnotin (hy : Ev ty σ H (kV k)) (hd : Ev td σ H (.ref a)) (ha : H a = some (.dK kvs)) : Ev (tDNotIn ty td) σ H (.bl (!(valV kvs k).isSome)) := fun H1 e Q q =>
  hy H1 e _ fun H2 e2 => hd H2 (e.trans e2) _ fun H3 e3 => ⟨a, _, rfl, DGet.k (k := k) (((e.trans e2).trans e3) _ _ ha), q H3 (e2.trans e3)⟩
theorem s_fld (hv : Ev tv σ H y) (ha : Ev ta σ H (.ref a)) (ho : H a = some (.ins C dx fs)) (c : Cls K C) (n : NoAttr K C f) (hl : fs.length < 1000) (kk : ∀ H2, Ex H H2 → D.nx σ (upd H2 a (.ins C dx (putF f y fs)))) : sFld K ta tv f D σ H :=
  hv H (Ex.refl H) _ fun H1 e1 => ha H1 e1 _ fun H2 e2 => ⟨a, C, dx, fs, rfl, e2 _ _ (e1 _ _ ho), c, n, hl, kk H2 (e1.trans e2)⟩
theorem s_fldaug {i j : Int} (ha : Ev ta σ H (.ref a)) (ho : H a = some (.ins C dx fs)) (c : Cls K C) (n : NoAttr K C f) (l : fs.lookup f = some (.int i)) (hv : Ev tv σ H (.int j)) (hl : fs.length < 1000) (kk : ∀ H2, Ex H H2 → D.nx σ (upd H2 a (.ins C dx (putF f (.int (i + j)) fs)))) : sFldAug K ta tv rAdd f D σ H :=
  ha H (Ex.refl H) _ fun H1 e1 => ⟨a, C, dx, fs, .int i, rfl, e1 _ _ ho, c, n, l, hv H1 e1 _ fun H2 e2 => ⟨i, j, rfl, rfl, dx, fs, e2 _ _ (e1 _ _ ho), hl, kk H2 (e1.trans e2)⟩⟩
end
section
variable {K : Frag} {T : NbC} {M : Addr → Prop} {B H : Hp} {nb dn c r : Addr} {st : NbS} {kvs : List (Key × V)} {ad : Nat → Addr} {σ : L2.St} {ta ty te : TE} {n : Nat}
theorem NbL.cellsE (L : NbL K T M B H nb st dn c r kvs ad) (U : NbT K T) (h : Ev ta σ H (.ref nb)) : Ev (tFld K ta "cells") σ H (.ref c) := ev_fld h L.hn U.cN (U.nN (by decide)) rfl
theorem NbL.rowE (L : NbL K T M B H nb st dn c r kvs ad) (U : NbT K T) (h : Ev ta σ H (.ref nb)) : Ev (tFld K ta "row") σ H (.ref r) := ev_fld h L.hn U.cN (U.nN (by decide)) rfl
theorem NbL.afterE (L : NbL K T M B H nb st dn c r kvs ad) (U : NbT K T) (h : Ev ta σ H (.ref nb)) : Ev (tFld K ta "after") σ H (.int (st.after : Int)) := ev_fld h L.hn U.cN (U.nN (by decide)) rfl
theorem NbL.atE (L : NbL K T M B H nb st dn c r kvs ad) (U : NbT K T) (h : Ev ta σ H (.ref nb)) (hy : Ev ty σ H (.int (n : Int))) (hn : n ∈ st.row) : Ev (tDGet (tFld K ta "cells") ty) σ H (.ref (ad n)) := ev_dget (k := .inl (n : Int)) (L.cellsE U h) hy L.hc (L.kin n hn)
theorem NbL.countE (L : NbL K T M B H nb st dn c r kvs ad) (U : NbT K T) (hn : n ∈ st.row) (h : Ev te σ H (.ref (ad n))) : Ev (tFld K te "count") σ H (.int ((st.cell n).count : Int)) := by
  obtain ⟨dx, lv, rv, h1, h2, h3⟩ := L.cells n hn
  exact ev_fld h h1 U.cC (U.nC (by decide)) rfl
theorem NbL.struckE (L : NbL K T M B H nb st dn c r kvs ad) (U : NbT K T) (hn : n ∈ st.row) (h : Ev te σ H (.ref (ad n))) : Ev (tFld K te "struck") σ H (.bl (st.cell n).struck) := by
  obtain ⟨dx, lv, rv, h1, h2, h3⟩ := L.cells n hn
  exact ev_fld h h1 U.cC (U.nC (by decide)) rfl
theorem NbL.linesE (L : NbL K T M B H nb st dn c r kvs ad) (U : NbT K T) (hn : n ∈ st.row) (h : Ev te σ H (.ref (ad n))) : ∃ lv, Ev (tFld K te "lines") σ H lv ∧ Dt K B lv (encS (st.cell n).src) := by
  obtain ⟨dx, lv, rv, h1, h2, h3⟩ := L.cells n hn
  exact ⟨lv, ev_fld h h1 U.cC (U.nC (by decide)) rfl, h2⟩
theorem NbL.recE (L : NbL K T M B H nb st dn c r kvs ad) (U : NbT K T) (hn : n ∈ st.row) (h : Ev te σ H (.ref (ad n))) : ∃ rv, Ev (tFld K te "record") σ H rv ∧ RecAt K T B rv (st.cell n).recd := by
  obtain ⟨dx, lv, rv, h1, h2, h3⟩ := L.cells n hn
  exact ⟨rv, ev_fld h h1 U.cC (U.nC (by decide)) rfl, h3⟩
theorem NbL.dtRow (L : NbL K T M B H nb st dn c r kvs ad) : Dt K H (.ref r) (.list (st.row.map fun n : Nat => PyData.int (n : Int))) := by
  refine .lst L.hr ?_
  have := dt_ints (K := K) (H := H) (st.row.map fun n : Nat => (n : Int))
  rw [List.map_map, List.map_map] at this
  exact this
theorem NbL.ex {H' : Hp} (L : NbL K T M B H nb st dn c r kvs ad) (e : Ex H H') : NbL K T M B H' nb st dn c r kvs ad :=
  ⟨L.x.trans e, fun a h => ⟨(L.m a h).1, ne_none e (L.m a h).2⟩, e _ _ L.hn, e _ _ L.hc, e _ _ L.hr, L.mn, L.mc, L.mr, L.kin, L.kout, L.kl, L.mad, fun n hn => (L.cells n hn).mono (Ex.refl _) fun o => e _ _, L.inj⟩
theorem NbL.toNB (L : NbL K T M B H nb st dn c r kvs ad) : NB K T M B H nb st := ⟨dn, c, r, kvs, ad, L⟩
theorem NbL.gr {B' H' : Hp} (L : NbL K T M B H nb st dn c r kvs ad) (g : Gr B H H' B') : NbL K T M B' H' nb st dn c r kvs ad :=
  ⟨g.d2, fun a h => ⟨g.fr a (L.m a h).1 (L.m a h).2, ne_none g.ex (L.m a h).2⟩, g.ex _ _ L.hn, g.ex _ _ L.hc, g.ex _ _ L.hr, L.mn, L.mc, L.mr, L.kin, L.kout, L.kl, L.mad, fun n hn => (L.cells n hn).mono g.xd fun o => g.ex _ _, L.inj⟩
/-- a write within M -/
theorem fr_upd {a : Addr} {o : HO} (x : Ex B H) (hm : M a) (hb : B a = none) (hh : H a ≠ none) : Fr M M B H (upd H a o) B := by
  refine ⟨fun b u h n => ?_, Ex.refl B, ex_upd x hb, fun b h _ => h, fun b h => .inl h, fun b h => h, fun b h => ?_⟩
  · rw [upd_ne (fun z : b = a => n (by rw [z]; exact hm))]
    exact h
  · by_cases z : b = a
    · rw [z, upd_same]
      exact fun z => nomatch z
    · rw [upd_ne z]
      exact h
end
/-! ### which data are cells -/
def isCellD (st : NbS) : PyData → Bool
  | .int i => st.row.any fun n => decide ((n : Int) = i)
  | _ => false
theorem isCell_iff {st : NbS} {d : PyData} : isCellD st d = true ↔ ∃ n ∈ st.row, d = .int (n : Int) := by
  cases d with
  | int i =>
    unfold isCellD
    rw [List.any_eq_true]
    constructor
    · rintro ⟨n, h1, h2⟩
      exact ⟨n, h1, by rw [of_decide_eq_true h2]⟩
    · rintro ⟨n, h1, h2⟩
      exact ⟨n, h1, decide_eq_true (PyData.int.inj h2).symm⟩
  | _ =>
    constructor
    · intro h; cases h
    · rintro ⟨n, _, h⟩; cases h
theorem NbL.isSome {K : Frag} {T : NbC} {M : Addr → Prop} {B H : Hp} {nb dn c r : Addr} {st : NbS} {kvs : List (Key × V)} {ad : Nat → Addr} (L : NbL K T M B H nb st dn c r kvs ad) (i : Int) : (valV kvs (.inl i)).isSome = isCellD st (.int i) := by
  cases h : isCellD st (.int i) with
  | true =>
    obtain ⟨n, hn, e⟩ := isCell_iff.mp h
    cases e
    rw [L.kin n hn]
    rfl
  | false =>
    rw [L.kout i fun n hn e => ?_]
    · rfl
    · have := isCell_iff.mpr ⟨n, hn, by rw [e]⟩
      rw [h] at this
      cases this
theorem cell_within {st : NbS} (G : NbG st) {d : PyData} (h : isCellD st d = true) : isWithin d 0 (st.after : Int) = true := by
  obtain ⟨n, hn, rfl⟩ := isCell_iff.mp h
  have := G.lt n hn
  unfold isWithin
  rw [Bool.and_eq_true]
  exact ⟨decide_eq_true (by omega), decide_eq_true (by omega)⟩
/-! ### promises -/
def spNbI (K : Frag) (T : NbC) : Sp := fun vs H Q _ => ∃ x dx, vs = [.ref x] ∧ H x = some (.ins T.N dx []) ∧ ∀ c r H', H c = none → H r = none → c ≠ r → H' x = some (.ins T.N dx [("cells", .ref c), ("row", .ref r), ("after", .int 0)]) → H' c = some (.dK []) → H' r = some (.lst []) → (∀ a o, a ≠ x → H a = some o → H' a = some o) → Q .non H'
def spCellI (K : Frag) (T : NbC) : Sp := fun vs H Q _ => ∃ x dx v, vs = [.ref x, v] ∧ H x = some (.ins T.C dx []) ∧ ∀ H', H' x = some (.ins T.C dx [("lines", v), ("count", .int 0), ("struck", .bl false), ("record", .non)]) → (∀ a o, a ≠ x → H a = some o → H' a = some o) → Q .non H'
/-- a promise of one that only looks -/
def spNq (K : Frag) (T : NbC) (R : NbS → List PyData → (PyData ⊕ Addr) → Prop) : Sp := fun vs H Q E => ∃ M B nb st ws ds o, vs = .ref nb :: ws ∧ NB K T M B H nb st ∧ NbG st ∧ DtAll K B ws ds ∧ R st ds o ∧ (∀ d, o = .inl d → Rt K B H d Q) ∧ (∀ c, o = .inr c → ∀ H', Ex H H' → E (.ref c) none H')
def R_look_cell (cB : Addr) (st : NbS) (ds : List PyData) (o : PyData ⊕ Addr) : Prop := ∃ d, ds = [d] ∧ o = if isCellD st d then .inl .none else .inr cB
def R_look_place (cB : Addr) (st : NbS) (ds : List PyData) (o : PyData ⊕ Addr) : Prop := ∃ d i, ds = [d, .int i] ∧ o = if isWithin d 0 i then .inl .none else .inr cB
/-! ### readings with a part for the data -/
def EvB (K : Frag) (te : TE) (σ : L2.St) (B H : Hp) (d : PyData) : Prop := ∀ H1, Ex H H1 → ∀ Q : VK, (∀ v H2 Hd, Gr B H1 H2 Hd → Dt K Hd v d → Q v H2) → te σ H1 Q
def EvBs (K : Frag) (ta : TA) (σ : L2.St) (B H : Hp) (ds : List PyData) : Prop := ∀ H1, Ex H H1 → ∀ Q : List V → Hp → Prop, (∀ vs H2 Hd, Gr B H1 H2 Hd → DtAll K Hd vs ds → Q vs H2) → ta σ H1 Q
section
variable {K : Frag} {σ : L2.St} {B H H' : Hp} {te ta tb : TE} {d e : PyData} {targs : TA} {ds : List PyData} {D : Ends}
theorem EvD.toB (h : EvD K te σ B d) (x : Ex B H) : EvB K te σ B H d := fun H1 e Q q => h H1 (x.trans e) Q q
theorem EvB.toD (h : EvB K te σ H H d) : EvD K te σ H d := h
theorem EvB.ex (h : EvB K te σ B H d) (x : Ex H H') : EvB K te σ B H' d := fun H1 e Q q => h H1 (x.trans e) Q q
theorem evb_v {v : V} (x : Ex B H) (h : Ev te σ H v) (hd : Dt K B v d) : EvB K te σ B H d := fun H1 e Q q => h H1 e Q fun H2 e2 => q v H2 B (Gr.base (x.trans e) e2) hd
theorem evb_i {i : Int} (x : Ex B H) (h : Ev te σ H (.int i)) : EvB K te σ B H (.int i) := evb_v x h (.int i)
theorem evb_b {b : Bool} (x : Ex B H) (h : Ev te σ H (.bl b)) : EvB K te σ B H (.bool b) := evb_v x h (.bl b)
theorem evb_is {d' : PyData} (h : EvB K te σ B H d) (e : d = d') : EvB K te σ B H d' := e ▸ h
theorem evB_int {i : Int} (h : EvB K te σ B H (.int i)) : Ev te σ H (.int i) := fun H1 e Q q => h H1 e Q fun v H2 Hd g hd => by rw [dp_int hd]; exact q H2 g.ex
theorem evB_str {x : Str} (h : EvB K te σ B H (.str x)) : Ev te σ H (.str x) := fun H1 e Q q => h H1 e Q fun v H2 Hd g hd => by rw [dp_str hd]; exact q H2 g.ex
theorem evB_bl {b : Bool} (h : EvB K te σ B H (.bool b)) : Ev te σ H (.bl b) := fun H1 e Q q => h H1 e Q fun v H2 Hd g hd => by rw [dp_bool hd]; exact q H2 g.ex
theorem ebs_nil (x : Ex B H) : EvBs K tNil σ B H [] := fun H1 e _ q => q [] H1 B (Gr.base (x.trans e) (Ex.refl H1)) .nil
theorem ebs_cons {tr : TA} (h : EvB K te σ B H d) (hr : EvBs K tr σ B H ds) : EvBs K (tCons te tr) σ B H (d :: ds) := fun H1 e _ q =>
  h H1 e _ fun v H2 A g hd => hr H2 (e.trans g.ex) _ fun vs H3 C g2 hds => q (v :: vs) H3 _ (g.join g2) (.cons (dp_ex join_l _ _ hd) (dpAll_ex (join_r (g.d2.trans g2.ex) g2.d2) _ _ hds))
theorem evb_tup (h : EvBs K targs σ B H ds) (hl : ds.length ≤ 100000) : EvB K (tTup targs) σ B H (.tuple ds) := fun H1 e _ q =>
  h H1 e _ fun vs H2 Hd g hds => ⟨by rw [dpAll_len hds]; exact sz_of hl, fun p hp => q (.ref p) _ _ (g.new _ hp) (.tup (st_of upd_same) (dpAll_ex (Ex.new (fresh_back g.d2 hp)) _ _ hds))⟩
theorem evb_lst (h : EvBs K targs σ B H ds) (hl : ds.length ≤ 100000) : EvB K (tLst targs) σ B H (.list ds) := fun H1 e _ q =>
  h H1 e _ fun vs H2 Hd g hds => ⟨by rw [dpAll_len hds]; exact sz_of hl, fun p hp => q (.ref p) _ _ (g.new _ hp) (.lst upd_same (dpAll_ex (Ex.new (fresh_back g.d2 hp)) _ _ hds))⟩
theorem s_asgB {i : Nat} (h : EvB K te σ B H d) (k : ∀ v H1 Hd, Gr B H H1 Hd → Dt K Hd v d → D.nx (σ.set i (some v)) H1) : tAsg te (gName i) D σ H := h H (Ex.refl H) _ k
theorem s_retB (h : EvB K te σ B H d) (k : ∀ v H1 Hd, Gr B H H1 Hd → Dt K Hd v d → D.rt v H1) : tRet te D σ H := h H (Ex.refl H) _ k
/-- list(xs) of a list that may change -/
theorem evb_copy {a : Addr} {xs : List V} (x : Ex B H) (h : Ev te σ H (.ref a)) (ha : H a = some (.lst xs)) (hd : DtAll K B xs ds) : EvB K (tCB (rLstU K) (tCons te tNil)) σ B H (.list ds) := fun H1 e Q q =>
  h H1 e _ fun H2 e2 => ⟨a, xs, rfl, .inl (sq_of (e2 _ _ (e _ _ ha))), fun l hl => q _ _ _ ((Gr.base (x.trans e) e2).new _ hl) (.lst upd_same (dpAll_ex (Ex.new (fresh_back ((x.trans e).trans e2) hl)) _ _ hd))⟩
end
section
variable {K : Frag} {T : NbC} {M : Addr → Prop} {B H : Hp} {nb : Addr} {st st' : NbS} {σ : L2.St} {ta : TE} {targs : TA} {ds : List PyData} {d : PyData} {o : PyData ⊕ Addr} {E : L2.St → XK} {m : Str} {D : Ends} {Q : VK}
/-- a method's name is no attribute of a notebook -/
def NoF (m : Str) : Prop := ∀ a b c : V, (([("cells", a), ("row", b), ("after", c)] : List (Str × V)).lookup m) = none
theorem t_metK {R : NbS → List PyData → (PyData ⊕ Addr) → NbS → Prop} (nf : NoF m) (hs : Ev ta σ H (.ref nb)) (hN : NB K T M B H nb st) (hG : NbG st) (ha : EvBs K targs σ B H ds) (hf : R st ds o st')
    (k1 : ∀ d, o = .inl d → ∀ v H' B' M', Fr M M' B H H' B' → NB K T M' B' H' nb st' → Kept H H' nb st'.row → Dt K B' v d → Q v H') (k2 : ∀ c, o = .inr c → ∀ H' B' M', Fr M M' B H H' B' → NB K T M' B' H' nb st' → E σ (.ref c) none H') : tMet T.N m (spNb K T R) E ta targs σ H Q := by
  refine hs H (Ex.refl H) _ fun H1 e1 => ?_
  obtain ⟨dn, c, r, kvs, ad, L⟩ := hN
  refine ⟨nb, dn, _, rfl, e1 _ _ L.hn, nf _ _ _, ?_⟩
  refine ha H1 e1 _ fun vs H2 Hd g hds => ?_
  have g2 : Gr B H H2 Hd := g.after e1
  exact ⟨M, Hd, nb, st, vs, ds, o, st', rfl, (L.gr g2).toNB, hG, hds, hf, fun d e v H' B' M' f hN kp => k1 d e v H' B' M' ((Fr.of g2).trans f) hN ((Kept.ex (row := st'.row) g2.ex).trans kp fun _ h => h), fun c e H' B' M' f => k2 c e H' B' M' ((Fr.of g2).trans f)⟩
theorem t_met {R : NbS → List PyData → (PyData ⊕ Addr) → NbS → Prop} (nf : NoF m) (hs : Ev ta σ H (.ref nb)) (hN : NB K T M B H nb st) (hG : NbG st) (ha : EvBs K targs σ B H ds) (hf : R st ds o st')
    (k1 : ∀ d, o = .inl d → ∀ v H' B' M', Fr M M' B H H' B' → NB K T M' B' H' nb st' → Dt K B' v d → Q v H') (k2 : ∀ c, o = .inr c → ∀ H' B' M', Fr M M' B H H' B' → NB K T M' B' H' nb st' → E σ (.ref c) none H') : tMet T.N m (spNb K T R) E ta targs σ H Q :=
  t_metK nf hs hN hG ha hf (fun d e v H' B' M' f hN _ => k1 d e v H' B' M' f hN) k2
theorem t_q {R : NbS → List PyData → (PyData ⊕ Addr) → Prop} (nf : NoF m) (hs : Ev ta σ H (.ref nb)) (hN : NB K T M B H nb st) (hG : NbG st) (ha : EvBs K targs σ B H ds) (hf : R st ds o)
    (k1 : ∀ d, o = .inl d → Rt K B H d Q) (k2 : ∀ c, o = .inr c → ∀ H', Ex H H' → E σ (.ref c) none H') : tMet T.N m (spNq K T R) E ta targs σ H Q := by
  refine hs H (Ex.refl H) _ fun H1 e1 => ?_
  obtain ⟨dn, c, r, kvs, ad, L⟩ := hN
  refine ⟨nb, dn, _, rfl, e1 _ _ L.hn, nf _ _ _, ?_⟩
  refine ha H1 e1 _ fun vs H2 Hd g hds => ?_
  have g2 : Gr B H H2 Hd := g.after e1
  exact ⟨M, Hd, nb, st, vs, ds, o, rfl, (L.gr g2).toNB, hG, hds, hf, fun d e v H' B' f => k1 d e v H' B' (g2.seq f), fun c e H' e' => k2 c e H' (g2.ex.trans e')⟩
theorem evb_q {R : NbS → List PyData → (PyData ⊕ Addr) → Prop} (nf : NoF m) (hs : Ev ta σ H (.ref nb)) (hN : NB K T M B H nb st) (hG : NbG st) (ha : EvBs K targs σ B H ds) (hf : R st ds (.inl d)) : EvB K (tMet T.N m (spNq K T R) E ta targs) σ B H d := fun H1 e Q q =>
  t_q nf (fun H2 e2 => hs H2 (e.trans e2)) (hN.ex e) hG (fun H2 e2 => ha H2 (e.trans e2)) hf (fun d' e' => by cases e'; exact q) fun c e' => by cases e'
end
end LC

namespace LC
open PySem PySem.Spec PyProof.Rows L2 Evl
section
variable {K : Frag} {T : NbC} {M : Addr → Prop} {B H : Hp} {nb : Addr} {st st' : NbS} {σ : L2.St} {ta te : TE} {targs : TA} {ds : List PyData} {d : PyData} {o : PyData ⊕ Addr} {E : L2.St → XK} {m : Str} {D : Ends} {Q : VK} {i : Nat}
theorem s_q {R : NbS → List PyData → (PyData ⊕ Addr) → Prop} (nf : NoF m) (hs : Ev ta σ H (.ref nb)) (hN : NB K T M B H nb st) (hG : NbG st) (ha : EvBs K targs σ B H ds) (hf : R st ds o)
    (k1 : ∀ d, o = .inl d → ∀ H', Ex H H' → D.nx σ H') (k2 : ∀ c, o = .inr c → ∀ H', Ex H H' → E σ (.ref c) none H') : tDrop (tMet T.N m (spNq K T R) E ta targs) D σ H := t_q (Q := fun _ H' => D.nx σ H') nf hs hN hG ha hf (fun d e v H' B' g _ => k1 d e H' g.ex) k2
theorem s_metD {R : NbS → List PyData → (PyData ⊕ Addr) → NbS → Prop} (nf : NoF m) (hs : Ev ta σ H (.ref nb)) (hN : NB K T M B H nb st) (hG : NbG st) (ha : EvBs K targs σ B H ds) (hf : R st ds o st')
    (k1 : ∀ d, o = .inl d → ∀ v H' B' M', Fr M M' B H H' B' → NB K T M' B' H' nb st' → Dt K B' v d → D.nx σ H') (k2 : ∀ c, o = .inr c → ∀ H' B' M', Fr M M' B H H' B' → NB K T M' B' H' nb st' → E σ (.ref c) none H') : tDrop (tMet T.N m (spNb K T R) E ta targs) D σ H := t_met (Q := fun _ H' => D.nx σ H') nf hs hN hG ha hf k1 k2
theorem s_metA {R : NbS → List PyData → (PyData ⊕ Addr) → NbS → Prop} (nf : NoF m) (hs : Ev ta σ H (.ref nb)) (hN : NB K T M B H nb st) (hG : NbG st) (ha : EvBs K targs σ B H ds) (hf : R st ds o st')
    (k1 : ∀ d, o = .inl d → ∀ v H' B' M', Fr M M' B H H' B' → NB K T M' B' H' nb st' → Dt K B' v d → D.nx (σ.set i (some v)) H') (k2 : ∀ c, o = .inr c → ∀ H' B' M', Fr M M' B H H' B' → NB K T M' B' H' nb st' → E σ (.ref c) none H') : tAsg (tMet T.N m (spNb K T R) E ta targs) (gName i) D σ H := t_met (Q := fun v H' => D.nx (σ.set i (some v)) H') nf hs hN hG ha hf k1 k2
end
section
variable {K : Frag} {T : NbC} {M : Addr → Prop} {B H H' : Hp} {nb dn c r : Addr} {st : NbS} {kvs : List (Key × V)} {ad : Nat → Addr} {σ : L2.St} {ta ty te : TE} {n : Nat}
theorem NbL.lenE (L : NbL K T M B H nb st dn c r kvs ad) (U : NbT K T) (h : Ev ta σ H (.ref nb)) : Ev (tCB (rLenU K) (tCons (tFld K ta "row") tNil)) σ H (.int (st.row.length : Int)) :=
  ev_is (ev_lenL (K := K) (evd_of (L.rowE U h) L.dtRow)) (by rw [List.length_map])
theorem NbL.ne_cr (L : NbL K T M B H nb st dn c r kvs ad) : c ≠ r := ne_of L.hc L.hr fun z => by cases z
theorem NbL.ne_nc (L : NbL K T M B H nb st dn c r kvs ad) : nb ≠ c := ne_of L.hn L.hc fun z => by cases z
theorem NbL.ne_nr (L : NbL K T M B H nb st dn c r kvs ad) : nb ≠ r := ne_of L.hn L.hr fun z => by cases z
theorem NbL.ne_na (L : NbL K T M B H nb st dn c r kvs ad) (hn : n ∈ st.row) : ad n ≠ nb := by
  obtain ⟨dx, lv, rv, h1, _⟩ := L.cells n hn
  refine ne_of h1 L.hn fun z => ?_
  injection z with _ _ z
  have z := congrArg List.length z
  simp at z
theorem NbL.ne_ca (L : NbL K T M B H nb st dn c r kvs ad) (hn : n ∈ st.row) : ad n ≠ c := by
  obtain ⟨dx, lv, rv, h1, _⟩ := L.cells n hn
  exact ne_of h1 L.hc fun z => by cases z
theorem NbL.ne_ra (L : NbL K T M B H nb st dn c r kvs ad) (hn : n ∈ st.row) : ad n ≠ r := by
  obtain ⟨dx, lv, rv, h1, _⟩ := L.cells n hn
  exact ne_of h1 L.hr fun z => by cases z
end
abbrev rIns : V → List V → Hp → VK → Prop := fun x vs H Q => ∃ (l : Addr) (xs : List V) (i : Int) (y : V), x = .ref l ∧ vs = [.int i, y] ∧ H l = some (.lst xs) ∧ xs.length < sizeLine ∧ 0 ≤ i ∧ i < 2 ^ 63 ∧ Q .non (upd H l (.lst (xs.take i.toNat ++ [y] ++ xs.drop i.toNat)))
theorem kIns {X : Cx} : MtR X "list.insert" rIns := mt_insert
theorem s_ins {K : Frag} {σ : L2.St} {H : Hp} {ta t1 t2 : TE} {D : Ends} {l : Addr} {xs : List V} {i : Int} {y : V} (hl : H l = some (.lst xs)) (ha : Ev ta σ H (.ref l)) (h1 : Ev t1 σ H (.int i)) (h2 : Ev t2 σ H y) (hz : xs.length < 100000) (h0 : 0 ≤ i) (h3 : i < 2 ^ 63)
    (k : ∀ H1, Ex H H1 → D.nx σ (upd H1 l (.lst (xs.take i.toNat ++ [y] ++ xs.drop i.toNat)))) : tDrop (tBM K "list" rIns ta (tCons t1 (tCons t2 tNil))) D σ H :=
  ha H (Ex.refl H) _ fun H1 e1 => ⟨Or.inl ⟨rfl, xs, sq_of (e1 l _ hl)⟩, h1 H1 e1 _ fun H2 e2 => h2 H2 (e1.trans e2) _ fun H3 e3 => ⟨l, xs, i, y, rfl, rfl, ((e1.trans e2).trans e3) _ _ hl, sz_lt hz, h0, h3, k H3 ((e1.trans e2).trans e3)⟩⟩
/-! ### put -/
def newCell (src : Src) : CellS := ⟨src, 0, false, none⟩
def putS (st : NbS) (i : Nat) (src : Src) : NbS := ⟨st.row.take i ++ [st.after] ++ st.row.drop i, fun n => if n = st.after then newCell src else st.cell n, st.after + 1⟩
def R_put (cP cS cF : Addr) (st : NbS) (ds : List PyData) (o : PyData ⊕ Addr) (st' : NbS) : Prop := ∃ d s, ds = [d, s] ∧ okD s = true ∧
  ((isWithin d 0 (st.row.length : Int) = false ∧ o = .inr cP ∧ st' = st) ∨ (isWithin d 0 (st.row.length : Int) = true ∧ isSource s = false ∧ o = .inr cS ∧ st' = st) ∨
   (isWithin d 0 (st.row.length : Int) = true ∧ isSource s = true ∧ st.row.length = 30 ∧ o = .inr cF ∧ st' = st) ∨
   (∃ (i : Nat) (src : Src), d = .int (i : Int) ∧ i ≤ st.row.length ∧ s = encS src ∧ goodS src = true ∧ st.row.length < 30 ∧ o = .inl (.int (st.after : Int)) ∧ st' = putS st i src))
theorem mem_putS {st : NbS} {i n : Nat} {src : Src} : n ∈ (putS st i src).row ↔ n = st.after ∨ n ∈ st.row := by
  unfold putS
  simp only [List.mem_append, List.mem_singleton]
  constructor
  · rintro ((h | h) | h)
    · exact .inr (List.mem_of_mem_take h)
    · exact .inl h
    · exact .inr (List.mem_of_mem_drop h)
  · rintro (h | h)
    · exact .inl (.inr h)
    · rw [← List.take_append_drop i st.row] at h
      rcases List.mem_append.mp h with h | h
      · exact .inl (.inl h)
      · exact .inr h
theorem NbG.put {st : NbS} (G : NbG st) {i : Nat} {src : Src} (hg : goodS src = true) (hl : st.row.length < 30) (hf : st.after < 5000) : NbG (putS st i src) := by
  have hna : st.after ∉ st.row := fun h => by have := G.lt _ h; omega
  refine ⟨fun n hn => ?_, fun n hn => ?_, ?_, ?_, by show st.after + 1 ≤ 5000; omega, fun n hn => ?_⟩
  · show goodS (if n = st.after then newCell src else st.cell n).src = true
    rcases mem_putS.mp hn with h | h
    · rw [if_pos h]; exact hg
    · rw [if_neg (fun z : n = st.after => hna (by rw [← z]; exact h))]; exact G.good n h
  · show n < st.after + 1
    rcases mem_putS.mp hn with h | h
    · omega
    · have := G.lt n h; omega
  · show (st.row.take i ++ [st.after] ++ st.row.drop i).Nodup
    have hnd := G.nd
    rw [← List.take_append_drop i st.row] at hnd
    rw [List.append_assoc, List.nodup_append] at *
    refine ⟨hnd.1, ?_, fun a ha b hb => ?_⟩
    · rw [List.nodup_append]
      refine ⟨by simp, hnd.2.1, fun a ha b hb => ?_⟩
      rw [List.mem_singleton] at ha
      rw [ha]
      exact fun z => hna (List.mem_of_mem_drop (z ▸ hb))
    · rcases List.mem_append.mp hb with hb | hb
      · rw [List.mem_singleton] at hb
        rw [hb]
        exact fun z => hna (List.mem_of_mem_take (z ▸ ha))
      · exact hnd.2.2 a ha b hb
  · show (st.row.take i ++ [st.after] ++ st.row.drop i).length ≤ 30
    rw [List.length_append, List.length_append, List.length_take, List.length_drop, List.length_singleton]
    omega
  · show (if n = st.after then newCell src else st.cell n).count ≤ 5000
    rcases mem_putS.mp hn with h | h
    · rw [if_pos h]; exact Nat.zero_le _
    · rw [if_neg (fun z : n = st.after => hna (by rw [← z]; exact h))]; exact G.cnt n h
theorem NbL.put {K : Frag} {T : NbC} {M : Addr → Prop} {B H H' : Hp} {nb dn c r x dx : Addr} {st : NbS} {kvs : List (Key × V)} {ad : Nat → Addr} {v : V} {i : Nat} {src : Src} (L : NbL K T M B H nb st dn c r kvs ad) (G : NbG st) (hi : i ≤ st.row.length)
    (hx : H x = none) (hv : Dt K B v (encS src)) (h1 : H' nb = some (.ins T.N dn [("cells", .ref c), ("row", .ref r), ("after", .int ((st.after : Int) + 1))])) (h2 : H' c = some (.dK (putK kvs (.inl (st.after : Int)) (.ref x))))
    (h3 : H' r = some (.lst ((st.row.map fun n : Nat => V.int (n : Int)).take i ++ [V.int (st.after : Int)] ++ (st.row.map fun n : Nat => V.int (n : Int)).drop i)))
    (h4 : H' x = some (.ins T.C dx [("lines", v), ("count", .int 0), ("struck", .bl false), ("record", .non)])) (h5 : ∀ a o, a ≠ nb → a ≠ c → a ≠ r → H a = some o → H' a = some o) :
    Fr M (fun a => M a ∨ a = x) B H H' B ∧ NbL K T (fun a => M a ∨ a = x) B H' nb (putS st i src) dn c r (putK kvs (.inl (st.after : Int)) (.ref x)) (fun n => if n = st.after then x else ad n) := by
  have hna : st.after ∉ st.row := fun h => by have := G.lt _ h; omega
  have bn := (L.m _ L.mn).1
  have bc := (L.m _ L.mc).1
  have br := (L.m _ L.mr).1
  have x' : Ex B H' := fun a o h => h5 a o (fun z => by rw [z, bn] at h; cases h) (fun z => by rw [z, bc] at h; cases h) (fun z => by rw [z, br] at h; cases h) (L.x _ _ h)
  have bx : B x = none := fresh_back L.x hx
  have stay : ∀ a, H a ≠ none → H' a ≠ none := fun a h => by
    by_cases e1 : a = nb
    · rw [e1, h1]; exact fun z => nomatch z
    by_cases e2 : a = c
    · rw [e2, h2]; exact fun z => nomatch z
    by_cases e3 : a = r
    · rw [e3, h3]; exact fun z => nomatch z
    cases q : H a with
    | none => exact absurd q h
    | some o => rw [h5 a o e1 e2 e3 q]; exact fun z => nomatch z
  have nx : ∀ n ∈ st.row, ad n ≠ x := fun n hn z => (L.m _ (L.mad n hn)).2 (by rw [z]; exact hx)
  refine ⟨⟨fun a o h n => h5 a o (fun z => n (z ▸ L.mn)) (fun z => n (z ▸ L.mc)) (fun z => n (z ▸ L.mr)) h, Ex.refl B, x', fun a h _ => h, fun a h => h.imp id fun z => by rw [z]; exact hx, fun a h => .inl h, stay⟩, x', fun a h => ?_, h1, h2, ?_, .inl L.mn, .inl L.mc, .inl L.mr, fun n hn => ?_, fun j hj => ?_, ?_, fun n hn => ?_, fun n hn => ?_, fun n hn m hm e => ?_⟩
  · rcases h with h | h
    · exact ⟨(L.m a h).1, stay a (L.m a h).2⟩
    · rw [h]
      exact ⟨bx, by rw [h4]; exact fun z => nomatch z⟩
  · rw [h3]
    show some (HO.lst _) = some (HO.lst ((st.row.take i ++ [st.after] ++ st.row.drop i).map fun n : Nat => V.int (n : Int)))
    rw [List.map_append, List.map_append, List.map_take, List.map_drop] <;> rfl
  · rw [valV_put]
    rcases mem_putS.mp hn with h | h
    · rw [if_pos (by rw [h]), if_pos h]
    · have hne : n ≠ st.after := fun z => hna (z ▸ h)
      rw [if_neg (fun z => hne (by have := Sum.inl.inj z; omega)), if_neg hne]
      exact L.kin n h
  · rw [valV_put, if_neg (fun z => hj st.after (mem_putS.mpr (.inl rfl)) (Sum.inl.inj z).symm)]
    exact L.kout j fun n hn => hj n (mem_putS.mpr (.inr hn))
  · have h1 := length_putK kvs (Sum.inl (st.after : Int)) (.ref x)
    have h2 := L.kl
    show _ ≤ st.after + 1
    omega
  · show M (if n = st.after then x else ad n) ∨ (if n = st.after then x else ad n) = x
    rcases mem_putS.mp hn with h | h
    · rw [if_pos h]; exact .inr rfl
    · rw [if_neg (fun z : n = st.after => hna (by rw [← z]; exact h))]; exact .inl (L.mad n h)
  · show CellAt K T B H' (if n = st.after then x else ad n) (if n = st.after then newCell src else st.cell n)
    rcases mem_putS.mp hn with h | h
    · rw [if_pos h, if_pos h]
      exact ⟨dx, v, .non, h4, hv, rfl⟩
    · have hne : n ≠ st.after := fun z => hna (z ▸ h)
      rw [if_neg hne, if_neg hne]
      exact (L.cells n h).mono (Ex.refl B) fun o ho => h5 _ o (L.ne_na h) (L.ne_ca h) (L.ne_ra h) ho
  · rcases mem_putS.mp hn with h | h <;> rcases mem_putS.mp hm with h' | h'
    · omega
    · have hne : m ≠ st.after := fun z => hna (z ▸ h')
      rw [if_pos h, if_neg hne] at e
      exact absurd e.symm (nx m h')
    · have hne : n ≠ st.after := fun z => hna (z ▸ h)
      rw [if_neg hne, if_pos h'] at e
      exact absurd e (nx n h)
    · have hne : n ≠ st.after := fun z => hna (z ▸ h)
      have hne' : m ≠ st.after := fun z => hna (z ▸ h')
      rw [if_neg hne, if_neg hne'] at e
      exact L.inj n h m h' e
end LC
namespace LC
open PySem PySem.Spec PyProof.Rows L2 Evl
/-! ### a cell written -/
def setS (st : NbS) (n : Nat) (c : CellS) : NbS := ⟨st.row, fun m => if m = n then c else st.cell m, st.after⟩
theorem NbL.setCell {K : Frag} {T : NbC} {M : Addr → Prop} {B H H' : Hp} {nb dn c r dx : Addr} {st : NbS} {kvs : List (Key × V)} {ad : Nat → Addr} {lv rv : V} {n : Nat} {cs : CellS} (L : NbL K T M B H nb st dn c r kvs ad) (hn : n ∈ st.row)
    (h1 : H' (ad n) = some (.ins T.C dx [("lines", lv), ("count", .int (cs.count : Int)), ("struck", .bl cs.struck), ("record", rv)])) (h2 : Dt K B lv (encS cs.src)) (h3 : RecAt K T B rv cs.recd) (h5 : ∀ a o, a ≠ ad n → H a = some o → H' a = some o) :
    Fr M M B H H' B ∧ NbL K T M B H' nb (setS st n cs) dn c r kvs ad := by
  have bn := (L.m _ (L.mad n hn)).1
  have x' : Ex B H' := fun a o h => h5 a o (fun z => by rw [z, bn] at h; cases h) (L.x _ _ h)
  have stay : ∀ a, H a ≠ none → H' a ≠ none := fun a h => by
    by_cases e1 : a = ad n
    · rw [e1, h1]; exact fun z => nomatch z
    cases q : H a with
    | none => exact absurd q h
    | some o => rw [h5 a o e1 q]; exact fun z => nomatch z
  refine ⟨⟨fun a o h m => h5 a o (fun z => m (by rw [z]; exact L.mad n hn)) h, Ex.refl B, x', fun a h _ => h, fun a h => .inl h, fun a h => h, stay⟩, x', fun a h => ⟨(L.m a h).1, stay a (L.m a h).2⟩, h5 _ _ (L.ne_na hn).symm L.hn, h5 _ _ (L.ne_ca hn).symm L.hc, h5 _ _ (L.ne_ra hn).symm L.hr, L.mn, L.mc, L.mr, L.kin, L.kout, L.kl, L.mad, fun m hm => ?_, L.inj⟩
  show CellAt K T B H' (ad m) (if m = n then cs else st.cell m)
  by_cases e : m = n
  · rw [if_pos e, e]
    exact ⟨dx, lv, rv, h1, h2, h3⟩
  · rw [if_neg e]
    exact (L.cells m hm).mono (Ex.refl B) fun o ho => h5 _ o (fun z => e (L.inj m hm n hn z)) ho
theorem NbG.setS {st : NbS} (G : NbG st) {n : Nat} {c : CellS} (hg : goodS c.src = true) (hc : c.count ≤ 5000) : NbG (setS st n c) := by
  refine ⟨fun m hm => ?_, G.lt, G.nd, G.len, G.few, fun m hm => ?_⟩
  · show goodS (if m = n then c else st.cell m).src = true
    split
    · exact hg
    · exact G.good m hm
  · show (if m = n then c else st.cell m).count ≤ 5000
    split
    · exact hc
    · exact G.cnt m hm
/-! ### what is told of cells -/
def R_version (cB : Addr) (st : NbS) (ds : List PyData) (o : PyData ⊕ Addr) : Prop := ∃ d, ds = [d] ∧ ((isCellD st d = false ∧ o = .inr cB) ∨ ∃ n ∈ st.row, d = .int ((n : Nat) : Int) ∧ o = .inl (.int ((st.cell n).count : Int)))
def R_source (cB : Addr) (st : NbS) (ds : List PyData) (o : PyData ⊕ Addr) : Prop := ∃ d, ds = [d] ∧ ((isCellD st d = false ∧ o = .inr cB) ∨ ∃ n ∈ st.row, d = .int ((n : Nat) : Int) ∧ o = .inl (encS (st.cell n).src))
def R_numbers (st : NbS) (ds : List PyData) (o : PyData ⊕ Addr) : Prop := ds = [] ∧ o = .inl (.list (st.row.map fun n : Nat => PyData.int (n : Int)))
def chC (c : CellS) (src : Src) : CellS := ⟨src, c.count + 1, c.struck, c.recd⟩
def R_change (cC cP cS cB : Addr) (st : NbS) (ds : List PyData) (o : PyData ⊕ Addr) (st' : NbS) : Prop := ∃ d e s, ds = [d, e, s] ∧ okD s = true ∧
  ((isCellD st d = false ∧ o = .inr cC ∧ st' = st) ∨ ∃ n ∈ st.row, d = .int ((n : Nat) : Int) ∧
    ((isWithin e 0 1000000 = false ∧ o = .inr cP ∧ st' = st) ∨ ∃ i : Int, e = .int i ∧ isWithin e 0 1000000 = true ∧
      ((isSource s = false ∧ o = .inr cS ∧ st' = st) ∨ ∃ src, s = encS src ∧ goodS src = true ∧
        ((i ≠ ((st.cell n).count : Int) ∧ o = .inr cB ∧ st' = st) ∨ (i = ((st.cell n).count : Int) ∧ o = .inl (.int ((st.cell n).count + 1 : Int)) ∧ st' = LC.setS st n (chC (st.cell n) src))))))
def R_holds0 (st : NbS) (ds : List PyData) (o : PyData ⊕ Addr) : Prop := ∃ n x, ds = [.int ((n : Nat) : Int), x] ∧ n ∈ st.row ∧ (st.cell n).recd = none ∧ o = .inl (.bool false)
def R_fresh0 (st : NbS) (ds : List PyData) (o : PyData ⊕ Addr) : Prop := ds = [] ∧ (∀ n ∈ st.row, (st.cell n).recd = none) ∧ o = .inl (.list [])
def R_state0 (st : NbS) (ds : List PyData) (o : PyData ⊕ Addr) : Prop := ∃ n : Nat, ds = [.int (n : Int)] ∧ n ∈ st.row ∧ (st.cell n).struck = false ∧ (st.cell n).recd = none ∧ o = .inl (.str "new")
def R_never (st : NbS) (ds : List PyData) (o : PyData ⊕ Addr) : Prop := False
theorem cell_int {st : NbS} {n : Nat} (h : n ∈ st.row) : isCellD st (.int (n : Int)) = true := isCell_iff.mpr ⟨n, h, rfl⟩
theorem spNq_never {P : Program} {w : World} {K : Frag} {mg : Str → Option Value} {base : Heap} {CX : CXT} {k : Nat} {T : NbC} {x q m : Str} {st : Stmt} {f : Addr} {fd : FuncData} {ps : List Str} (F : FnP K x q st f fd) (g : Meth K T.N m f) (b : Binds K fd ps []) : HasM P w K mg base CX k T.N m ps (spNq K T R_never) :=
  ⟨f, fd, ⟨fun vs H Q E z => by obtain ⟨_, _, _, _, _, _, _, _, _, _, _, z, _⟩ := z; exact z.elim, fun A outer s H args us vs Q E hr e0 hb hv z => by obtain ⟨_, _, _, _, _, _, _, _, _, _, _, z, _⟩ := z; exact z.elim⟩, b, g⟩
theorem NbL.base {K : Frag} {T : NbC} {M : Addr → Prop} {B B' H : Hp} {nb dn c r : Addr} {st : NbS} {kvs : List (Key × V)} {ad : Nat → Addr} (L : NbL K T M B H nb st dn c r kvs ad) (x : Ex B B') (x' : Ex B' H) (m : ∀ a, M a → B' a = none) : NbL K T M B' H nb st dn c r kvs ad :=
  ⟨x', fun a h => ⟨m a h, (L.m a h).2⟩, L.hn, L.hc, L.hr, L.mn, L.mc, L.mr, L.kin, L.kout, L.kl, L.mad, fun n hn => (L.cells n hn).mono x fun o h => h, L.inj⟩
theorem ev_isN {σ : L2.St} {H : Hp} {ta : TE} {v : V} (h : Ev ta σ H v) : Ev (tOp (fun x y H Q => y = V.non ∧ Q (.bl (decide (x = .non))) H) ta (tC .non)) σ H (.bl (decide (v = .non))) := fun H1 e Q q => h H1 e _ fun H2 e2 => ⟨rfl, q H2 e2⟩
theorem ev_notN {σ : L2.St} {H : Hp} {ta : TE} {v : V} (h : Ev ta σ H v) : Ev (tOp (fun x y H Q => y = V.non ∧ Q (.bl (!decide (x = .non))) H) ta (tC .non)) σ H (.bl (!decide (v = .non))) := fun H1 e Q q => h H1 e _ fun H2 e2 => ⟨rfl, q H2 e2⟩
end LC

namespace LC
open PySem PySem.Spec PyProof.Rows L2 Evl
/-! ### xs[i] += e, xs[i] = e -/
def rGetL : V → V → Hp → VK → Prop := fun x y H Q => ∃ p xs i v, x = .ref p ∧ y = .int i ∧ H p = some (.lst xs) ∧ 0 ≤ i ∧ xs[i.toNat]? = some v ∧ Q v H
theorem get_list {X : Cx} : PGet X rGetL := by
  intro pins s σ H x y v u Q I rx ry h
  obtain ⟨p, xs, i, z, rfl, rfl, hq, h0, he, q⟩ := h
  cases rx
  obtain ⟨t, rfl⟩ := ry
  obtain ⟨its, r, pl, hz⟩ := I.list (sq_of hq)
  obtain ⟨w, ew, rw'⟩ := r.get he
  have hl := r.length
  have hn := line63
  have hlt : i.toNat < xs.length := (List.getElem?_eq_some_iff.mp he).1
  exact wpAny_getItem_list pl.isList h0 (by omega) (by simpa using ew) ⟨z, H, I, rw', q⟩
section
variable {K : Frag} {σ : L2.St} {H : Hp} {to ti te : TE} {D : Ends} {p : Addr} {xs : List V} {i : Nat}
theorem s_augL {a b : Int} (ho : Ev to σ H (.ref p)) (hi : Ev ti σ H (.int (i : Int))) (hp : H p = some (.lst xs)) (hx : xs[i]? = some (.int a)) (he : Ev te σ H (.int b)) (k : ∀ H1, Ex H H1 → D.nx σ (upd H1 p (.lst (xs.set i (.int (a + b)))))) : tAugS to ti te rGetL (ipI fun i j => i + j) rSetL D σ H := by
  refine ho H (Ex.refl H) _ fun H1 e1 => hi H1 e1 _ fun H2 e2 => ⟨p, xs, (i : Int), .int a, rfl, rfl, e2 _ _ (e1 _ _ hp), by omega, by rw [Int.toNat_natCast]; exact hx, ?_⟩
  have hlt : i < xs.length := (List.getElem?_eq_some_iff.mp hx).1
  refine he H2 (e1.trans e2) _ fun H3 e3 => ⟨a, b, rfl, rfl, p, xs, (i : Int), i, rfl, rfl, ((e1.trans e2).trans e3) _ _ hp, ixN_nat hlt, k H3 ((e1.trans e2).trans e3)⟩
theorem s_setL {v : V} (he : Ev te σ H v) (ho : Ev to σ H (.ref p)) (hi : Ev ti σ H (.int (i : Int))) (hp : H p = some (.lst xs)) (hlt : i < xs.length) (k : ∀ H1, Ex H H1 → D.nx σ (upd H1 p (.lst (xs.set i v)))) : tAsg te (gSub to ti rSetL) D σ H :=
  he H (Ex.refl H) _ fun H1 e1 => ho H1 e1 _ fun H2 e2 => hi H2 (e1.trans e2) _ fun H3 e3 => ⟨p, xs, (i : Int), i, rfl, rfl, ((e1.trans e2).trans e3) _ _ hp, ixN_nat hlt, k H3 ((e1.trans e2).trans e3)⟩
/-- .. of data -/
theorem s_setLB {B : Hp} {d : PyData} (he : EvB K te σ B H d) (ho : Ev to σ H (.ref p)) (hi : Ev ti σ H (.int (i : Int))) (hp : H p = some (.lst xs)) (hlt : i < xs.length) (k : ∀ v H1 Hd, Gr B H H1 Hd → Dt K Hd v d → D.nx σ (upd H1 p (.lst (xs.set i v)))) : tAsg te (gSub to ti rSetL) D σ H :=
  he H (Ex.refl H) _ fun v H1 Hd g hd => ho H1 g.ex _ fun H2 e2 => hi H2 (g.ex.trans e2) _ fun H3 e3 => ⟨p, xs, (i : Int), i, rfl, rfl, ((g.ex.trans e2).trans e3) _ _ hp, ixN_nat hlt, k v H3 Hd (g.more (e2.trans e3)) hd⟩
end
end LC
namespace LC
open PySem PySem.Spec PyProof.Rows L2 Evl
/-! ### a new list of data, which may be changed later on -/
def EvF (K : Frag) (te : TE) (σ : L2.St) (B H : Hp) (ds : List PyData) : Prop := ∀ H1, Ex H H1 → ∀ Q : VK, (∀ p vs H2 Hd, H1 p = none → Gr B H1 H2 Hd → Hd p = none → H2 p = some (.lst vs) → DtAll K Hd vs ds → Q (.ref p) H2) → te σ H1 Q
section
variable {K : Frag} {σ : L2.St} {A B H H' : Hp} {te ta tb tn : TE} {d z : PyData} {targs : TA} {ds : List PyData} {D : Ends}
theorem EvF.toB (h : EvF K te σ B H ds) : EvB K te σ B H (.list ds) := fun H1 e Q q => h H1 e Q fun p vs H2 Hd hp g hd h2 hv => by
  have hu : Ex Hd (upd Hd p (.lst vs)) := Ex.new hd
  refine q (.ref p) H2 (upd Hd p (.lst vs)) ⟨g.ex, g.xd.trans hu, fun a o h => ?_, fun a h0 h1 => ?_⟩ (.lst upd_same (dpAll_ex hu _ _ hv))
  · by_cases z : a = p
    · rw [z, upd_same] at h
      rw [z, ← h]
      exact h2
    · rw [upd_ne z] at h
      exact g.d2 _ _ h
  · have ne : a ≠ p := fun z => h1 (by rw [z]; exact hp)
    rw [upd_ne ne]
    exact g.fr a h0 h1
theorem EvB.wide (h : EvB K te σ B H d) (x : Ex B A) (y : Ex A H) : EvB K te σ A H d := fun H1 e Q q => h H1 e Q fun v H2 Hd g hd => q v H2 _ (g.wide x (y.trans e)) (dp_ex (g.wide_r (y.trans e)) _ _ hd)
theorem evf_lst (h : EvBs K targs σ B H ds) (hl : ds.length ≤ 100000) : EvF K (tLst targs) σ B H ds := fun H1 e _ q =>
  h H1 e _ fun vs H2 Hd g hds => ⟨by rw [dpAll_len hds]; exact sz_of hl, fun p hp => q p vs _ Hd (fresh_back g.ex hp) (g.more (Ex.new hp)) (fresh_back g.d2 hp) upd_same hds⟩
theorem evf_rep {n : Int} (h : EvF K ta σ B H ds) (hn : Ev tn σ H (.int n)) (h0 : 0 ≤ n ∧ n ≤ 1000) (hl : ds.length ≤ 50) : EvF K (tOp (rMulU K) ta tn) σ B H (List.replicate n.toNat ds).flatten := fun H1 e Q q =>
  h H1 e _ fun p vs H2 Hd hp g hd h2 hv => hn H2 (e.trans g.ex) _ fun H3 e3 => .inr (.inl ⟨p, n, vs, rfl, rfl, e3 _ _ h2, by omega, by omega, by
    rw [dpAll_len hv]
    refine sz_of (Nat.le_trans (Nat.mul_le_mul hl (show n.toNat ≤ 1000 by omega)) (by decide)), fun l hl2 => q l _ _ Hd (fresh_back (g.ex.trans e3) hl2) ((g.more e3).more (Ex.new hl2)) (fresh_back (g.d2.trans e3) hl2) upd_same (dpAll_rep hv _)⟩)
theorem lc_turnB {H2 : Hp} {L : Addr} {out : List PyData} {σ2 : L2.St} (e : Ex A H2) (hD : H2 L = none) (p : Acc K A H2 L out H') (hl : out.length < 50000) (he : EvB K te σ2 A H2 z) :
    tYes σ2 H' fun b' H3 => if b' = true then te σ2 H3 fun y H4 => ∃ acc, H4 L = some (.lst acc) ∧ acc.length < sizeLine ∧ Acc K A H2 L (out ++ [z]) (upd H4 L (.lst (acc ++ [y]))) else Acc K A H2 L (out ++ [z]) H3 := by
  show te σ2 H' _
  refine he H' p.1 _ fun y H4 C g hy => ?_
  obtain ⟨acc, h1, h2, h3⟩ := p.push (fresh_back e hD) hD g hy
  exact ⟨acc, h1, sz_lt (by omega), h3⟩
theorem evf_lcR {ta : TA} {n j : Nat} {vs : List Nat} (g : Nat → PyData) (h : EvBs K ta σ B H [.int (n : Int)]) (hz : n ≤ 40000) (hw : ∀ x, wipe ((wipe σ vs).set j (some x)) vs = wipe σ vs)
    (he : ∀ i, i < n → EvB K te ((wipe σ vs).set j (some (.int (i : Int)))) B H (g i)) : EvF K (tLc (iRng1 ta) (gName j) tYes te vs) σ B H ((List.range n).map g) := fun H1 e Q q => h H1 e _ fun ws H2 A gr hd => by
  obtain rfl : ws = [.int (n : Int)] := by
    cases hd with
    | cons h1 h2 => cases h2; rw [dp_int h1]
  refine ⟨n, rfl, by omega, by omega, fun L hL => ?_⟩
  refine lc_range (lo := 0) (n := (n : Int).toNat) (fun i H' => Acc K A H2 L ((List.range i).map g) H') (Acc.nil gr.d2 hL) (fun i H' hi p => ?_) fun H' p => ?_
  · have e0 : (0 : Int) + (i : Int) = (i : Int) := Int.zero_add _
    have hi2 : i < n := by omega
    have key := lc_turnB (te := te) (σ2 := (wipe σ vs).set j (some (.int (i : Int)))) gr.d2 hL p (by rw [List.length_map, List.length_range]; omega) (((he i hi2).ex (e.trans gr.ex)).wide gr.xd gr.d2)
    have e1 : (List.range (i + 1)).map g = (List.range i).map g ++ [g i] := by rw [List.range_succ, List.map_append] <;> rfl
    show gName j (.int ((0 : Int) + (i : Int))) (wipe σ vs) H' _
    rw [e0]
    refine ⟨hw _, ?_⟩
    rw [e1]
    exact key
  · have p2 : Acc K A H2 L ((List.range (n : Int).toNat).map g) H' := p
    rw [Int.toNat_natCast] at p2
    obtain ⟨p1, C, acc, h1, h2, h3, h4, h5, h6⟩ := p2
    exact q L acc H' C (fresh_back gr.ex hL) ⟨gr.ex.trans p1, gr.xd.trans h2, h3, fun a h0 hn => h5 a (gr.fr a h0 hn) (ne_none gr.ex hn)⟩ h4 h1 h6
theorem s_asgF {i : Nat} (h : EvF K te σ B H ds) (k : ∀ p vs H1 Hd, H p = none → Gr B H H1 Hd → Hd p = none → H1 p = some (.lst vs) → DtAll K Hd vs ds → D.nx (σ.set i (some (.ref p))) H1) : tAsg te (gName i) D σ H := h H (Ex.refl H) _ k
theorem s_setLF {to ti : TE} {p : Addr} {xs : List V} {i : Nat} (he : EvF K te σ B H ds) (ho : Ev to σ H (.ref p)) (hi : Ev ti σ H (.int (i : Int))) (hp : H p = some (.lst xs)) (hlt : i < xs.length) (k : ∀ l vs H1 Hd, H l = none → Gr B H H1 Hd → Hd l = none → H1 l = some (.lst vs) → DtAll K Hd vs ds → D.nx σ (upd H1 p (.lst (xs.set i (.ref l))))) : tAsg te (gSub to ti rSetL) D σ H :=
  he H (Ex.refl H) _ fun l vs H1 Hd hl g hd h1 hv => ho H1 g.ex _ fun H2 e2 => hi H2 (g.ex.trans e2) _ fun H3 e3 => ⟨p, xs, (i : Int), i, rfl, rfl, ((g.ex.trans e2).trans e3) _ _ hp, ixN_nat hlt, k l vs H3 Hd hl (g.more (e2.trans e3)) hd ((e2.trans e3) _ _ h1) hv⟩
theorem s_two {i : Nat} {es : List PyData} (h1 : EvF K ta σ B H ds) (h2 : EvF K tb σ B H es) (k : ∀ p l m us vs H1 Hd, H p = none → H l = none → H m = none → l ≠ m → p ≠ l → p ≠ m → Gr B H H1 Hd → Hd p = none → Hd l = none → Hd m = none →
    H1 p = some (.lst [.ref l, .ref m]) → H1 l = some (.lst us) → H1 m = some (.lst vs) → DtAll K Hd us ds → DtAll K Hd vs es → D.nx (σ.set i (some (.ref p))) H1) : tAsg (tLst (tCons ta (tCons tb tNil))) (gName i) D σ H :=
  h1 H (Ex.refl H) _ fun l us H1 A hl g1 hA hu du => h2 H1 g1.ex _ fun m vs H2 C hm g2 hC hv dv => ⟨by rw [sizeLine_eq]; show 2 ≤ _; omega, fun p hp => by
    have g := g1.join g2
    have jn : ∀ a, A a = none → C a = none → join A C a = none := fun a h h' => by unfold join; rw [h]; exact h'
    have cl : C l = none := g2.fr l (fresh_back g1.xd hA) (by rw [hu]; exact fun z => nomatch z)
    have am : A m = none := fresh_back g1.d2 hm
    have h2l : H2 l = some (.lst us) := g2.ex _ _ hu
    have pl : p ≠ l := fun z => by rw [z, h2l] at hp; cases hp
    have pm : p ≠ m := fun z => by rw [z, hv] at hp; cases hp
    have lm : l ≠ m := fun z => by rw [z] at hu; rw [hu] at hm; cases hm
    refine k p l m us vs _ _ (fresh_back g.ex hp) hl (fresh_back g1.ex hm) lm pl pm (g.more (Ex.new hp)) (fresh_back g.d2 hp) (jn l hA cl) (jn m am hC) upd_same ?_ ?_ (dpAll_ex join_l _ _ du) (dpAll_ex (join_r (g1.d2.trans g2.ex) g2.d2) _ _ dv)
    · rw [upd_ne pl.symm]
      exact h2l
    · rw [upd_ne pm.symm]
      exact hv⟩
end
end LC

namespace LC
open PySem PySem.Spec PyProof.Rows L2 Evl
/-! ### a new notebook -/
def st0 : NbS := ⟨[], fun _ => newCell [], 0⟩
theorem NbG.st0 : NbG LC.st0 := ⟨fun _ h => (nomatch h), fun _ h => (nomatch h), List.nodup_nil, Nat.zero_le _, Nat.zero_le _, fun _ h => (nomatch h)⟩
section
variable {K : Frag} {T : NbC} {σ : L2.St} {H B : Hp} {E : XK} {Q : VK} {D : Ends} {i : Nat}
theorem t_new (x : Ex B H) (k : ∀ nb H' M, Ex H H' → NB K T M B H' nb st0 → (∀ a, M a → H a = none) → Q (.ref nb) H') : tMake T.N (spNbI K T) [] E tNil σ H Q := by
  intro p dx hx hdx hne
  refine ⟨p, dx, rfl, upd_same, fun c r H' hc hr ncr h1 h2 h3 h4 => ⟨rfl, ?_⟩⟩
  have nc : c ≠ p := fun z => by rw [z, upd_same] at hc; cases hc
  have nr : r ≠ p := fun z => by rw [z, upd_same] at hr; cases hr
  rw [upd_ne nc] at hc
  rw [upd_ne nr] at hr
  have ncd : c ≠ dx := fun z => by rw [z, upd_same] at hc; cases hc
  have nrd : r ≠ dx := fun z => by rw [z, upd_same] at hr; cases hr
  rw [upd_ne ncd] at hc
  rw [upd_ne nrd] at hr
  have e : Ex H H' := fun a o h => by
    have h1 : a ≠ p := ne_of_none h hx
    have h2 : a ≠ dx := ne_of_none h hdx
    refine h4 a o h1 ?_
    rw [upd_ne h1, upd_ne h2]
    exact h
  have hM : ∀ a, (a = p ∨ a = c ∨ a = r) → H a = none := fun a h => by
    rcases h with h | h | h <;> rw [h] <;> assumption
  refine k p H' (fun a => a = p ∨ a = c ∨ a = r) e ⟨dx, c, r, [], fun _ => 0, x.trans e, fun a h => ⟨fresh_back x (hM a h), ?_⟩, h1, h2, h3, .inl rfl, .inr (.inl rfl), .inr (.inr rfl), fun _ h => (nomatch h), fun _ _ => rfl, Nat.le_refl _, fun _ h => (nomatch h), fun _ h => (nomatch h), fun _ h => (nomatch h)⟩ hM
  rcases h with h | h | h <;> rw [h]
  · rw [h1]; exact fun z => nomatch z
  · rw [h2]; exact fun z => nomatch z
  · rw [h3]; exact fun z => nomatch z
theorem s_new_nb (x : Ex B H) (k : ∀ nb H' M, Ex H H' → NB K T M B H' nb st0 → (∀ a, M a → H a = none) → D.nx (σ.set i (some (.ref nb))) H') : tAsg (tMake T.N (spNbI K T) [] E tNil) (gName i) D σ H := t_new (Q := fun v H' => D.nx (σ.set i (some v)) H') x k
theorem ev_ixV {ta tb : TE} {p : Addr} {xs : List V} {v : V} {j : Nat} (h : Ev ta σ H (.ref p)) (hi : Ev tb σ H (.int (j : Int))) (hp : H p = some (.lst xs)) (hx : xs[j]? = some v) : Ev (tOp (rIx K) ta tb) σ H v := fun H1 e Q q =>
  h H1 e _ fun H2 e2 => hi H2 (e.trans e2) _ fun H3 e3 => .inl ⟨p, xs, (j : Int), v, rfl, rfl, sq_of (((e.trans e2).trans e3) _ _ hp), atI_nat hx, q H3 (e2.trans e3)⟩
end
/-! ### k14: a notebook, versions, what two hands have seen, sources -/
structure I14 (K : Frag) (T : NbC) (M : Addr → Prop) (B H : Hp) (nb : Addr) (st : NbS) (many lim : Nat) (pV pS pR : Addr) (l : Nat → Addr) (aa : Nat → List Int) (vs : List V) : Prop where
  N : NB K T M B H nb st
  G : NbG st
  row : st.row = List.range many
  pl : ∀ n, n < many → (st.cell n).struck = false ∧ (st.cell n).recd = none ∧ (st.cell n).count ≤ lim
  hV : H pV = some (.lst ((List.range many).map fun n => V.int ((st.cell n).count : Int)))
  hS : H pS = some (.lst [.ref (l 0), .ref (l 1)])
  hL : ∀ h, h < 2 → H (l h) = some (.lst ((aa h).map V.int))
  nL : ∀ h, h < 2 → (aa h).length = many
  bL : ∀ h, h < 2 → ∀ x ∈ aa h, 0 ≤ x ∧ x ≤ (lim : Int)
  hR : H pR = some (.lst vs)
  dR : DtAll K B vs ((List.range many).map fun n => encS (st.cell n).src)
  o : ∀ p ∈ [pV, pS, pR, l 0, l 1], B p = none ∧ ¬ M p
  nd : [pV, pS, pR, l 0, l 1].Nodup
section
variable {K : Frag} {T : NbC} {M : Addr → Prop} {B B' H H' : Hp} {nb : Addr} {st : NbS} {many lm : Nat} {pV pS pR : Addr} {l : Nat → Addr} {aa : Nat → List Int} {vs : List V}
theorem I14.there (I : I14 K T M B H nb st many lm pV pS pR l aa vs) : ∀ p ∈ [pV, pS, pR, l 0, l 1], H p ≠ none := fun p hp => by
  simp only [List.mem_cons, List.not_mem_nil, or_false] at hp
  rcases hp with rfl | rfl | rfl | rfl | rfl
  · rw [I.hV]; exact fun z => nomatch z
  · rw [I.hS]; exact fun z => nomatch z
  · rw [I.hR]; exact fun z => nomatch z
  · rw [I.hL 0 (by omega)]; exact fun z => nomatch z
  · rw [I.hL 1 (by omega)]; exact fun z => nomatch z
theorem I14.gr (I : I14 K T M B H nb st many lm pV pS pR l aa vs) (g : Gr B H H' B') : I14 K T M B' H' nb st many lm pV pS pR l aa vs :=
  ⟨I.N.gr g, I.G, I.row, I.pl, g.ex _ _ I.hV, g.ex _ _ I.hS, fun h hh => g.ex _ _ (I.hL h hh), I.nL, I.bL, g.ex _ _ I.hR, dpAll_ex g.xd _ _ I.dR, fun p hp => ⟨g.fr p (I.o p hp).1 (I.there p hp), (I.o p hp).2⟩, I.nd⟩
theorem I14.ex (I : I14 K T M B H nb st many lm pV pS pR l aa vs) (e : Ex H H') : I14 K T M B H' nb st many lm pV pS pR l aa vs := I.gr (Gr.base I.N.x e)
theorem I14.more {lm' : Nat} (I : I14 K T M B H nb st many lm pV pS pR l aa vs) (h : lm ≤ lm') : I14 K T M B H nb st many lm' pV pS pR l aa vs :=
  ⟨I.N, I.G, I.row, fun n hn => ⟨(I.pl n hn).1, (I.pl n hn).2.1, Nat.le_trans (I.pl n hn).2.2 h⟩, I.hV, I.hS, I.hL, I.nL, fun h' hh x hx => ⟨(I.bL h' hh x hx).1, by have := (I.bL h' hh x hx).2; omega⟩, I.hR, I.dR, I.o, I.nd⟩
theorem nb_upd {p : Addr} {u : HO} (h : NB K T M B H nb st) (hb : B p = none) (hm : ¬ M p) (hh : H p ≠ none) : NB K T M B (upd H p u) nb st :=
  h.apart (M := fun x => x = p) (M' := fun x => x = p) (fr_upd h.x rfl hb hh) fun a ha z => hm (z ▸ ha)
/-- seen[hand] = a new list -/
theorem I14.hand (I : I14 K T M B H nb st many lm pV pS pR l aa vs) {p : Addr} {ys : List Int} {hd : Nat} (hh : hd < 2) (hp : H p = some (.lst (ys.map V.int))) (hn : ys.length = many) (hy : ∀ x ∈ ys, 0 ≤ x ∧ x ≤ (lm : Int)) (ho : B p = none ∧ ¬ M p) (hne : p ∉ [pV, pS, pR, l 0, l 1]) :
    I14 K T M B (upd H pS (.lst (([.ref (l 0), .ref (l 1)] : List V).set hd (.ref p)))) nb st many lm pV pS pR (fun h => if h = hd then p else l h) (fun h => if h = hd then ys else aa h) vs := by
  have nd := I.nd
  simp only [List.nodup_cons, List.mem_cons, List.not_mem_nil, or_false, not_or, not_false_eq_true, List.nodup_nil, and_true] at nd
  simp only [List.mem_cons, List.not_mem_nil, or_false, not_or] at hne
  obtain ⟨⟨n1, n2, n3, n4⟩, ⟨n5, n6, n7⟩, ⟨n8, n9⟩, n10⟩ := nd
  obtain ⟨m1, m2, m3, m4, m5⟩ := hne
  have oS := I.o pS (by simp)
  refine ⟨nb_upd I.N oS.1 oS.2 (I.there pS (by simp)), I.G, I.row, I.pl, ?_, ?_, fun h hh' => ?_, fun h hh' => ?_, fun h hh' => ?_, ?_, I.dR, ?_, ?_⟩
  · rw [upd_ne n1]; exact I.hV
  · rw [upd_same]
    have : hd = 0 ∨ hd = 1 := by omega
    rcases this with rfl | rfl <;> rfl
  · show upd H pS _ (if h = hd then p else l h) = some (.lst ((if h = hd then ys else aa h).map V.int))
    by_cases e : h = hd
    · rw [if_pos e, if_pos e, upd_ne m2]; exact hp
    · rw [if_neg e, if_neg e, upd_ne]
      · exact I.hL h hh'
      · have : h = 0 ∨ h = 1 := by omega
        rcases this with rfl | rfl
        · exact Ne.symm n6
        · exact Ne.symm n7
  · show (if h = hd then ys else aa h).length = many
    split
    · exact hn
    · exact I.nL h hh'
  · show ∀ x ∈ (if h = hd then ys else aa h), _
    split
    · exact hy
    · exact I.bL h hh'
  · rw [upd_ne (Ne.symm n5)]; exact I.hR
  · intro q hq
    simp only [List.mem_cons, List.not_mem_nil, or_false] at hq
    rcases hq with rfl | rfl | rfl | hq | hq
    · exact I.o _ (by simp)
    · exact oS
    · exact I.o _ (by simp)
    · rw [hq]
      split
      · exact ho
      · exact I.o _ (by simp)
    · rw [hq]
      split
      · exact ho
      · exact I.o _ (by simp)
  · have : hd = 0 ∨ hd = 1 := by omega
    rcases this with rfl | rfl
    · simp [n1, n2, n4, n5, n7, n9, Ne.symm m1, Ne.symm m2, Ne.symm m3, m5]
    · simp [n1, n2, n3, n5, n6, n8, Ne.symm m1, Ne.symm m2, Ne.symm m3, Ne.symm m4]
theorem zeros {us : List V} : ∀ {n : Nat} {us : List V}, DtAll K H us (List.replicate n [PyData.int 0]).flatten → us = (List.replicate n (0 : Int)).map V.int
  | 0, us, h => by
    cases h
    rfl
  | n + 1, us, h => by
    rw [List.replicate_succ, List.flatten_cons] at h
    cases h with
    | cons h1 h2 =>
      rw [dp_int h1, zeros (us := []) h2, List.replicate_succ, List.map_cons]
theorem ints_inv : ∀ {xs : List Int} {us : List V}, DtAll K H us (xs.map PyData.int) → us = xs.map V.int
  | [], _, h => by cases h; rfl
  | x :: xs, _, h => by
    cases h with
    | cons h1 h2 => rw [dp_int h1, ints_inv h2, List.map_cons]
end
theorem set_range {α : Type} (f : Nat → α) (m n : Nat) (y : α) : ((List.range m).map f).set n y = (List.range m).map fun k => if k = n then y else f k := by
  apply List.ext_getElem?
  intro k
  rw [List.getElem?_set, List.getElem?_map, List.getElem?_map, List.length_map, List.length_range]
  by_cases h : n = k
  · subst h
    rw [if_pos rfl]
    by_cases hm : n < m
    · rw [if_pos hm, List.getElem?_range hm]
      simp
    · rw [if_neg hm, List.getElem?_eq_none (by rw [List.length_range]; omega)]
      rfl
  · rw [if_neg h]
    by_cases hm : k < m
    · rw [List.getElem?_range hm]
      simp [Ne.symm h]
    · rw [List.getElem?_eq_none (by rw [List.length_range]; omega)]
      rfl
theorem dpAll_set {K : Frag} {H : Hp} {v : V} {d : PyData} (hv : Dt K H v d) : ∀ {vs : List V} {ds : List PyData} (n : Nat), DtAll K H vs ds → DtAll K H (vs.set n v) (ds.set n d)
  | _, _, _, .nil => .nil
  | _, _, 0, .cons _ t => .cons hv t
  | _, _, n + 1, .cons h t => .cons h (dpAll_set hv n t)
section
variable {K : Frag} {T : NbC} {M M' : Addr → Prop} {B B1 H H1 H2 : Hp} {nb : Addr} {st : NbS} {many lm n hd : Nat} {pV pS pR : Addr} {l : Nat → Addr} {aa : Nat → List Int} {vs : List V} {v : V} {src : Src}
theorem I14.change (I : I14 K T M B H nb st many lm pV pS pR l aa vs) (hlm : lm < 5000) (f : Fr M M' B H H1 B1) (hN : NB K T M' B1 H1 nb (LC.setS st n (chC (st.cell n) src))) (hg : goodS src = true) (hn : n < many) (hh : hd < 2) (hv : Dt K B1 v (encS src))
    (h1 : H2 pV = some (.lst (((List.range many).map fun n => V.int ((st.cell n).count : Int)).set n (.int ((st.cell n).count + 1 : Int))))) (h2 : H2 pR = some (.lst (vs.set n v))) (h3 : H2 (l hd) = some (.lst (((aa hd).map V.int).set n (.int ((st.cell n).count + 1 : Int)))))
    (h4 : ∀ a o, a ≠ pV → a ≠ pR → a ≠ l hd → H1 a = some o → H2 a = some o) :
    I14 K T M' B1 H2 nb (LC.setS st n (chC (st.cell n) src)) many (lm + 1) pV pS pR l (fun h => if h = hd then (aa h).set n ((st.cell n).count + 1 : Int) else aa h) (vs.set n v) := by
  have nd := I.nd
  simp only [List.nodup_cons, List.mem_cons, List.not_mem_nil, or_false, not_or, not_false_eq_true, List.nodup_nil, and_true] at nd
  obtain ⟨⟨n1, n2, n3, n4⟩, ⟨n5, n6, n7⟩, ⟨n8, n9⟩, n10⟩ := nd
  have o' : ∀ p ∈ [pV, pS, pR, l 0, l 1], B1 p = none ∧ ¬ M' p := fun p hp => ⟨f.nw p (I.o p hp).1 (I.there p hp), fun z => by
    rcases f.mm p z with z | z
    · exact (I.o p hp).2 z
    · exact I.there p hp z⟩
  have hl : l hd ∈ [pV, pS, pR, l 0, l 1] := by
    have : hd = 0 ∨ hd = 1 := by omega
    rcases this with rfl | rfl <;> simp
  have k1 : ∀ p ∈ [pV, pS, pR, l 0, l 1], ∀ o, H p = some o → H1 p = some o := fun p hp o h => f.fr p o h (I.o p hp).2
  have lS : pS ≠ l hd := by
    have : hd = 0 ∨ hd = 1 := by omega
    rcases this with rfl | rfl
    · exact n6
    · exact n7
  have d2 : Ex B1 H2 := fun a o h => h4 a o (fun z => by rw [z, (o' pV (by simp)).1] at h; cases h) (fun z => by rw [z, (o' pR (by simp)).1] at h; cases h) (fun z => by rw [z, (o' _ hl).1] at h; cases h) (f.d2 _ _ h)
  refine ⟨hN.apart (M := fun x => x = pV ∨ x = pR ∨ x = l hd) (M' := fun x => x = pV ∨ x = pR ∨ x = l hd) (B' := B1) (H' := H2) ⟨fun a o h m => h4 a o (fun z => m (.inl z)) (fun z => m (.inr (.inl z))) (fun z => m (.inr (.inr z))) h, Ex.refl _, d2, fun a h _ => h, fun a h => .inl h, fun a h => h, fun a h => ?_⟩ fun a ha z => ?_, I.G.setS hg ?_, I.row, fun m hm => ?_, ?_, ?_, fun h hh' => ?_, fun h hh' => ?_, fun h hh' x hx => ?_, h2, ?_, o', I.nd⟩
  · by_cases e1 : a = pV
    · rw [e1, h1]; exact fun z => nomatch z
    by_cases e2 : a = pR
    · rw [e2, h2]; exact fun z => nomatch z
    by_cases e3 : a = l hd
    · rw [e3, h3]; exact fun z => nomatch z
    cases q : H1 a with
    | none => exact absurd q h
    | some o => rw [h4 a o e1 e2 e3 q]; exact fun z => nomatch z
  · rcases z with rfl | rfl | rfl
    · exact (o' _ (by simp)).2 ha
    · exact (o' _ (by simp)).2 ha
    · exact (o' _ hl).2 ha
  · show (st.cell n).count + 1 ≤ 5000
    have := (I.pl n hn).2.2
    omega
  · show (if m = n then chC (st.cell n) src else st.cell m).struck = false ∧ (if m = n then chC (st.cell n) src else st.cell m).recd = none ∧ (if m = n then chC (st.cell n) src else st.cell m).count ≤ lm + 1
    by_cases e : m = n
    · rw [if_pos e]
      exact ⟨(I.pl n hn).1, (I.pl n hn).2.1, by show (st.cell n).count + 1 ≤ lm + 1; have := (I.pl n hn).2.2; omega⟩
    · rw [if_neg e]
      exact ⟨(I.pl m hm).1, (I.pl m hm).2.1, by have := (I.pl m hm).2.2; omega⟩
  · rw [h1, set_range]
    show some (HO.lst _) = some (HO.lst ((List.range many).map fun m => V.int ((if m = n then chC (st.cell n) src else st.cell m).count : Int)))
    congr 2
    refine List.map_congr_left fun m _ => ?_
    by_cases e : m = n
    · rw [if_pos e, if_pos e] <;> rfl
    · rw [if_neg e, if_neg e]
  · exact h4 _ _ (Ne.symm n1) n5 lS (k1 _ (by simp) _ I.hS)
  · show H2 (l h) = some (.lst ((if h = hd then (aa h).set n ((st.cell n).count + 1 : Int) else aa h).map V.int))
    by_cases e : h = hd
    · rw [if_pos e, e, h3, List.map_set]
    · rw [if_neg e]
      have hm : l h ∈ [pV, pS, pR, l 0, l 1] := by
        have : h = 0 ∨ h = 1 := by omega
        rcases this with rfl | rfl <;> simp
      refine h4 _ _ ?_ ?_ ?_ (k1 _ hm _ (I.hL h hh'))
      · have : h = 0 ∨ h = 1 := by omega
        rcases this with rfl | rfl
        · exact Ne.symm n3
        · exact Ne.symm n4
      · have : h = 0 ∨ h = 1 := by omega
        rcases this with rfl | rfl
        · exact Ne.symm n8
        · exact Ne.symm n9
      · have : (h = 0 ∧ hd = 1) ∨ (h = 1 ∧ hd = 0) := by omega
        rcases this with ⟨rfl, rfl⟩ | ⟨rfl, rfl⟩
        · exact n10
        · exact Ne.symm n10
  · show (if h = hd then (aa h).set n ((st.cell n).count + 1 : Int) else aa h).length = many
    split
    · rw [List.length_set]; exact I.nL h hh'
    · exact I.nL h hh'
  · have hx : x ∈ (if h = hd then (aa h).set n ((st.cell n).count + 1 : Int) else aa h) := hx
    have hc := (I.pl n hn).2.2
    split at hx
    · rcases List.mem_or_eq_of_mem_set hx with hx | hx
      · have := I.bL h hh' x hx
        omega
      · omega
    · have := I.bL h hh' x hx
      omega
  · have := dpAll_set hv n (dpAll_ex f.xd _ _ I.dR)
    rw [set_range] at this
    have e : ((List.range many).map fun k => if k = n then encS src else encS (st.cell k).src) = (List.range many).map fun m => encS (if m = n then chC (st.cell n) src else st.cell m).src := by
      refine List.map_congr_left fun m _ => ?_
      by_cases e : m = n
      · rw [if_pos e, if_pos e] <;> rfl
      · rw [if_neg e, if_neg e]
    rw [e] at this
    exact this
end
theorem s_ifP {σ : L2.St} {H H0 : Hp} {t : TT} {tu tw : TS} {D : Ends} {b : Bool} (P : L2.St → Hp → Prop) (fin : ∀ σ H, P σ H → D.nx σ H) (h : EvT t σ H0 b) (x : Ex H0 H) (k1 : b = true → (∀ σ H, P σ H → D.nx σ H) → ∀ H1, Ex H H1 → tu D σ H1) (k2 : b = false → (∀ σ H, P σ H → D.nx σ H) → ∀ H1, Ex H H1 → tw D σ H1) : tIfS t tu tw D σ H := s_ifD h x (fun e => k1 e fin) fun e => k2 e fin
section
variable {K : Frag} {T : NbC} {M M' : Addr → Prop} {B B' H H' : Hp} {nb : Addr} {st : NbS} {many lm n hd : Nat} {pV pS pR : Addr} {l : Nat → Addr} {aa : Nat → List Int} {vs : List V} {σ : L2.St} {sv : Int}
theorem I14.fr (I : I14 K T M B H nb st many lm pV pS pR l aa vs) (f : Fr M M' B H H' B') (hN : NB K T M' B' H' nb st) : I14 K T M' B' H' nb st many lm pV pS pR l aa vs := by
  have k1 : ∀ p ∈ [pV, pS, pR, l 0, l 1], ∀ o, H p = some o → H' p = some o := fun p hp o h => f.fr p o h (I.o p hp).2
  refine ⟨hN, I.G, I.row, I.pl, k1 _ (by simp) _ I.hV, k1 _ (by simp) _ I.hS, fun h hh => k1 _ ?_ _ (I.hL h hh), I.nL, I.bL, k1 _ (by simp) _ I.hR, dpAll_ex f.xd _ _ I.dR, fun p hp => ⟨f.nw p (I.o p hp).1 (I.there p hp), fun z => ?_⟩, I.nd⟩
  · have : h = 0 ∨ h = 1 := by omega
    rcases this with rfl | rfl <;> simp
  · rcases f.mm p z with z | z
    · exact (I.o p hp).2 z
    · exact I.there p hp z
theorem two_at (hd2 : hd < 2) : ([V.ref (l 0), V.ref (l 1)] : List V)[hd]? = some (V.ref (l hd)) := by
  have : hd = 0 ∨ hd = 1 := by omega
  rcases this with rfl | rfl <;> rfl
theorem I14.seenE (I : I14 K T M B H nb st many lm pV pS pR l aa vs) (hd2 : hd < 2) (hsv : (aa hd)[n]? = some sv) (h1 : σ[6]? = some (some (V.ref pS)) := by rfl) (h2 : σ[8]? = some (some (V.int (hd : Int))) := by rfl) (h3 : σ[9]? = some (some (V.int (n : Int))) := by rfl) : Ev (tOp (rIx K) (tOp (rIx K) (tVar 6) (tVar 8)) (tVar 9)) σ H (.int sv) :=
  ev_ixV (ev_ixV (ev_var h1) (ev_var h2) I.hS (two_at hd2)) (ev_var h3) (I.hL hd hd2) (by rw [List.getElem?_map, hsv]; rfl)
theorem I14.verE (I : I14 K T M B H nb st many lm pV pS pR l aa vs) (hn : n < many) (h1 : σ[5]? = some (some (V.ref pV)) := by rfl) (h3 : σ[9]? = some (some (V.int (n : Int))) := by rfl) : Ev (tOp (rIx K) (tVar 5) (tVar 9)) σ H (.int ((st.cell n).count : Int)) :=
  ev_ixV (ev_var h1) (ev_var h3) I.hV (by rw [List.getElem?_map, List.getElem?_range hn]; rfl)
end
theorem rep_flat (d : PyData) : ∀ n : Nat, (List.replicate n [d]).flatten = (List.range n).map fun _ => d
  | 0 => rfl
  | n + 1 => by
    rw [List.range_succ, List.map_append, ← rep_flat d n, List.replicate_succ', List.flatten_append]
    rfl
end LC

namespace LC
open PySem PySem.Spec PyProof.Rows L2 Evl
/-! ### drop -/
def dropS (st : NbS) (n : Nat) : NbS := ⟨st.row.erase n, st.cell, st.after⟩
theorem valV_drop {κ : Type} [DecidableEq κ] (k j : κ) : ∀ kvs : List (κ × V), valV (dropK kvs k) j = if j = k then none else valV kvs j
  | [] => by
    show valV ([] : List (κ × V)) j = _
    rw [valV_nil]
    split <;> rfl
  | p :: r => by
    have ih := valV_drop k j r
    by_cases h : p.1 = k
    · have e : dropK (p :: r) k = dropK r k := by
        unfold dropK
        rw [List.filter_cons_of_neg (by simp [h])]
      rw [e, ih]
      by_cases hj : j = k
      · rw [if_pos hj, if_pos hj]
      · rw [if_neg hj, if_neg hj, valV_neg (fun z => hj (by rw [← z, h]))]
    · have e : dropK (p :: r) k = p :: dropK r k := by
        unfold dropK
        rw [List.filter_cons_of_pos (by simp [h])]
      rw [e]
      by_cases hp : p.1 = j
      · rw [valV_pos hp, valV_pos hp, if_neg (fun z => h (by rw [hp, z]))]
      · rw [valV_neg hp, valV_neg hp, ih]
theorem length_dropK {κ : Type} [DecidableEq κ] (kvs : List (κ × V)) (k : κ) : (dropK kvs k).length ≤ kvs.length := List.length_filter_le _ _
theorem mem_dropS {st : NbS} (G : NbG st) {n m : Nat} : m ∈ (dropS st n).row ↔ m ≠ n ∧ m ∈ st.row := List.Nodup.mem_erase_iff G.nd
theorem NbG.drop {st : NbS} (G : NbG st) (n : Nat) : NbG (dropS st n) :=
  ⟨fun m hm => G.good m ((mem_dropS G).mp hm).2, fun m hm => G.lt m ((mem_dropS G).mp hm).2, G.nd.erase n, Nat.le_trans (List.length_erase_le) G.len, G.few, fun m hm => G.cnt m ((mem_dropS G).mp hm).2⟩
theorem NbL.drop {K : Frag} {T : NbC} {M : Addr → Prop} {B H H' : Hp} {nb dn c r : Addr} {st : NbS} {kvs : List (Key × V)} {ad : Nat → Addr} {n : Nat} (L : NbL K T M B H nb st dn c r kvs ad) (G : NbG st)
    (h2 : H' c = some (.dK (dropK kvs (.inl (n : Int))))) (h3 : H' r = some (.lst ((st.row.erase n).map fun n : Nat => V.int (n : Int)))) (h5 : ∀ a o, a ≠ c → a ≠ r → H a = some o → H' a = some o) :
    Fr M M B H H' B ∧ NbL K T M B H' nb (dropS st n) dn c r (dropK kvs (.inl (n : Int))) ad := by
  have bc := (L.m _ L.mc).1
  have br := (L.m _ L.mr).1
  have x' : Ex B H' := fun a o h => h5 a o (fun z => by rw [z, bc] at h; cases h) (fun z => by rw [z, br] at h; cases h) (L.x _ _ h)
  have stay : ∀ a, H a ≠ none → H' a ≠ none := fun a h => by
    by_cases e2 : a = c
    · rw [e2, h2]; exact fun z => nomatch z
    by_cases e3 : a = r
    · rw [e3, h3]; exact fun z => nomatch z
    cases q : H a with
    | none => exact absurd q h
    | some o => rw [h5 a o e2 e3 q]; exact fun z => nomatch z
  refine ⟨⟨fun a o h m => h5 a o (fun z => m (by rw [z]; exact L.mc)) (fun z => m (by rw [z]; exact L.mr)) h, Ex.refl B, x', fun a h _ => h, fun a h => .inl h, fun a h => h, stay⟩, x', fun a h => ⟨(L.m a h).1, stay a (L.m a h).2⟩, h5 _ _ L.ne_nc L.ne_nr L.hn, h2, h3, L.mn, L.mc, L.mr, fun m hm => ?_, fun i hi => ?_, Nat.le_trans (length_dropK _ _) L.kl, fun m hm => L.mad m ((mem_dropS G).mp hm).2, fun m hm => ?_, fun m hm m' hm' => L.inj m ((mem_dropS G).mp hm).2 m' ((mem_dropS G).mp hm').2⟩
  · obtain ⟨h1, h2⟩ := (mem_dropS G).mp hm
    rw [valV_drop, if_neg (fun z => h1 (by have := Sum.inl.inj z; omega))]
    exact L.kin m h2
  · rw [valV_drop]
    by_cases e : i = (n : Int)
    · rw [if_pos (by rw [e])]
    · rw [if_neg (fun z => e (Sum.inl.inj z))]
      exact L.kout i fun m hm z => hi m ((mem_dropS G).mpr ⟨fun q => e (by rw [← z, q]), hm⟩) z
  · obtain ⟨h1, h2'⟩ := (mem_dropS G).mp hm
    exact (L.cells m h2').mono (Ex.refl B) fun o ho => h5 _ o (L.ne_ca h2') (L.ne_ra h2') ho
def R_drop (cB : Addr) (st : NbS) (ds : List PyData) (o : PyData ⊕ Addr) (st' : NbS) : Prop := ∃ d, ds = [d] ∧ ((isCellD st d = false ∧ o = .inr cB ∧ st' = st) ∨ ∃ n ∈ st.row, d = .int ((n : Nat) : Int) ∧ o = .inl .none ∧ st' = dropS st n)
section
variable {K : Frag} {σ : L2.St} {H : Hp} {ta td ty te : TE} {D : Ends} {a : Addr}
theorem kRem {X : Cx} : MtR X "list.remove" rRemI := mt_remove
theorem erase_map {α β : Type} (f : α → β) : ∀ (l : List α) (j : Nat), (l.map f).eraseIdx j = (l.eraseIdx j).map f
  | [], _ => rfl
  | _ :: _, 0 => rfl
  | x :: l, j + 1 => by
    show f x :: (l.map f).eraseIdx j = f x :: (l.eraseIdx j).map f
    rw [erase_map f l j]
/-- xs.remove(n) of a list of numbers, each once -/
theorem s_rem {l : Addr} {xs : List Nat} {n : Nat} (hl : H l = some (.lst (xs.map fun n : Nat => V.int (n : Int)))) (hn : n ∈ xs) (nd : xs.Nodup) (ha : Ev ta σ H (.ref l)) (h : Ev te σ H (.int (n : Int))) (k : ∀ H1, Ex H H1 → D.nx σ (upd H1 l (.lst ((xs.erase n).map fun n : Nat => V.int (n : Int))))) :
    tDrop (tBM K "list" rRemI ta (tCons te tNil)) D σ H := ha H (Ex.refl H) _ fun H1 e1 => ⟨Or.inl ⟨rfl, _, sq_of (e1 l _ hl)⟩, h H1 e1 _ fun H2 e2 => by
  have hj : xs.idxOf n < xs.length := List.idxOf_lt_length_iff.mpr hn
  have hg : xs[xs.idxOf n]? = some n := by rw [List.getElem?_eq_getElem hj, List.getElem_idxOf hj]
  refine ⟨l, xs.map fun n : Nat => (n : Int), (n : Int), xs.idxOf n, rfl, rfl, ?_, ?_, fun m hm z => ?_, ?_⟩
  · rw [List.map_map]
    exact (e1.trans e2) _ _ hl
  · rw [List.getElem?_map, hg]
    rfl
  · rw [List.getElem?_map] at z
    obtain ⟨q, hq, hz⟩ := Option.map_eq_some_iff.mp z
    have e : q = n := by omega
    rw [e] at hq
    have hm' : m < xs.length := by omega
    have h1 : xs[m] = n := by
      rw [List.getElem?_eq_getElem hm'] at hq
      exact Option.some.inj hq
    have h2 := nd.idxOf_getElem m hm'
    rw [h1] at h2
    omega
  · rw [erase_map, List.map_map, ← List.erase_eq_eraseIdx_of_idxOf rfl]
    exact k H2 (e1.trans e2)⟩
/-- d.pop(k) -/
theorem s_pop {kvs : List (Key × V)} {k : Key} {v : V} (ha : H a = some (.dK kvs)) (hd : Ev td σ H (.ref a)) (hy : Ev ty σ H (kV k)) (hv : valV kvs k = some v) (kk : ∀ H1, Ex H H1 → D.nx σ (upd H1 a (.dK (dropK kvs k)))) : tDrop (tDPop1 td ty) D σ H :=
  hd H (Ex.refl H) _ fun H1 e1 => ⟨a, rfl, .inl ⟨kvs, .inl (e1 _ _ ha)⟩, hy H1 e1 _ fun H2 e2 => ⟨kvs, k, v, (e1.trans e2) _ _ ha, rfl, hv, kk H2 (e1.trans e2)⟩⟩
end
end LC

namespace LC
open PySem PySem.Spec PyProof.Rows L2 Evl
section
variable {K : Frag} {σ : L2.St} {H : Hp} {ta te : TE}
theorem ev_index {l : Addr} {xs : List Nat} {n : Nat} (ha : Ev ta σ H (.ref l)) (hl : H l = some (.lst (xs.map fun n : Nat => V.int (n : Int)))) (hn : n ∈ xs) (nd : xs.Nodup) (h : Ev te σ H (.int (n : Int))) : Ev (tBM K "list" (rIndex K) ta (tCons te tNil)) σ H (.int (xs.idxOf n : Int)) := fun H1 e Q q =>
  ha H1 e _ fun H2 e2 => ⟨Or.inl ⟨rfl, _, sq_of (e2 _ _ (e _ _ hl))⟩, h H2 (e.trans e2) _ fun H3 e3 => by
    have hj : xs.idxOf n < xs.length := List.idxOf_lt_length_iff.mpr hn
    have hg : xs[xs.idxOf n]? = some n := by rw [List.getElem?_eq_getElem hj, List.getElem_idxOf hj]
    refine ⟨l, xs.map fun n : Nat => V.int (n : Int), .int (n : Int), xs.idxOf n, .int (n : Int), rfl, rfl, sq_of (((e.trans e2).trans e3) _ _ hl), rfl, ?_, ?_, ?_, fun m z hm hz => ?_, q H3 (e2.trans e3)⟩
    · rw [List.all_eq_true]
      intro v hv
      obtain ⟨m, _, rfl⟩ := List.mem_map.mp hv
      rfl
    · rw [List.getElem?_map, hg]
      rfl
    · exact decide_eq_true rfl
    · rw [List.getElem?_map] at hz
      obtain ⟨w, hw, rfl⟩ := Option.map_eq_some_iff.mp hz
      refine decide_eq_false fun z => ?_
      have hm' : m < xs.length := by omega
      have h1 : xs[m] = w := by
        rw [List.getElem?_eq_getElem hm'] at hw
        exact Option.some.inj hw
      have h2 := nd.idxOf_getElem m hm'
      have e : w = n := by omega
      rw [h1, e] at h2
      omega⟩
end
section
variable {K : Frag} {T : NbC} {M : Addr → Prop} {B H : Hp} {nb : Addr} {st st' : NbS} {σ : L2.St} {ta tb te : TE} {targs : TA} {ds es : List PyData} {d : PyData} {o : PyData ⊕ Addr} {E : L2.St → XK} {m : Str} {D : Ends} {i : Nat}
theorem evb_slT {lo hi : TO} {l h : Option Int} (ha : EvB K ta σ B H (.tuple ds)) (hl : EvO lo σ H l) (hh : EvO hi σ H h) : EvB K (tSl (rSlU K) ta lo hi) σ B H (.tuple (cutD ds l h)) := fun H1 e Q q =>
  ha H1 e _ fun v H2 A g hd => hl H2 (e.trans g.ex) _ fun H3 e3 => hh H3 ((e.trans g.ex).trans e3) _ fun H4 e4 => by
    obtain ⟨a, xs, rfl, hs, hall⟩ := dp_tup hd
    have hl := dpAll_len hall
    have g4 : Gr B H1 H4 A := g.more (e3.trans e4)
    refine .inr (.inl ⟨a, xs, rfl, ex_t g4.d2 hs, fun hw => ?_, fun hw p hp => ?_⟩)
    · rw [hl] at hw
      refine q _ H4 A g4 ?_
      rw [cut_whole hw]
      exact .tup hs hall
    · exact q _ _ _ (g4.new _ hp) (.tup (st_of upd_same) (dpAll_ex (Ex.new (fresh_back g4.d2 hp)) _ _ (cutV_dp hall l h)))
theorem s_fldB {tv : TE} {a C dx : Addr} {fs : List (Str × V)} {f : Str} (hv : EvB K tv σ B H d) (ha : Ev ta σ H (.ref a)) (ho : H a = some (.ins C dx fs)) (c : Cls K C) (n : NoAttr K C f) (hl : fs.length < 1000) (kk : ∀ v H2 Hd, Gr B H H2 Hd → Dt K Hd v d → D.nx σ (upd H2 a (.ins C dx (putF f v fs)))) : sFld K ta tv f D σ H :=
  hv H (Ex.refl H) _ fun v H1 Hd g hd => ha H1 g.ex _ fun H2 e2 => ⟨a, C, dx, fs, rfl, e2 _ _ (g.ex _ _ ho), c, n, hl, kk v H2 Hd (g.more e2) hd⟩
theorem s_metAK {R : NbS → List PyData → (PyData ⊕ Addr) → NbS → Prop} (nf : NoF m) (hs : Ev ta σ H (.ref nb)) (hN : NB K T M B H nb st) (hG : NbG st) (ha : EvBs K targs σ B H ds) (hf : R st ds o st')
    (k1 : ∀ d, o = .inl d → ∀ v H' B' M', Fr M M' B H H' B' → NB K T M' B' H' nb st' → Kept H H' nb st'.row → Dt K B' v d → D.nx (σ.set i (some v)) H') (k2 : ∀ c, o = .inr c → ∀ H' B' M', Fr M M' B H H' B' → NB K T M' B' H' nb st' → E σ (.ref c) none H') : tAsg (tMet T.N m (spNb K T R) E ta targs) (gName i) D σ H := t_metK (Q := fun v H' => D.nx (σ.set i (some v)) H') nf hs hN hG ha hf k1 k2
end
theorem s_ifN {σ : L2.St} {H H0 : Hp} {t : TT} {tu : TS} {D : Ends} {b : Bool} (h : EvT t σ H0 b) (x : Ex H0 H) (k1 : b = true → ∀ H1, Ex H H1 → tu D σ H1) (k2 : b = false → ∀ H1, Ex H H1 → D.nx σ H1) : tIfS t tu tNext D σ H := s_ifD h x k1 k2
/-! ### cut, join -/
def cutS (st : NbS) (n k : Nat) : NbS := setS (setS (putS st (st.row.idxOf n + 1) ((st.cell n).src.drop k)) st.after ⟨(st.cell n).src.drop k, 0, (st.cell n).struck, none⟩) n ⟨(st.cell n).src.take k, (st.cell n).count + 1, (st.cell n).struck, (st.cell n).recd⟩
def R_cut (cC cP cF : Addr) (st : NbS) (ds : List PyData) (o : PyData ⊕ Addr) (st' : NbS) : Prop := ∃ d e, ds = [d, e] ∧
  ((isCellD st d = false ∧ o = .inr cC ∧ st' = st) ∨ ∃ n ∈ st.row, d = .int ((n : Nat) : Int) ∧
    ((isWithin e 0 ((st.cell n).src.length : Int) = false ∧ o = .inr cP ∧ st' = st) ∨ ∃ k : Nat, e = .int (k : Int) ∧ k ≤ (st.cell n).src.length ∧
      ((st.row.length = 30 ∧ o = .inr cF ∧ st' = st) ∨ (st.row.length < 30 ∧ st.after < 5000 ∧ o = .inl (.int (st.after : Int)) ∧ st' = cutS st n k))))
def joinS (st : NbS) (n m : Nat) : NbS := dropS (setS st n ⟨(st.cell n).src ++ (st.cell m).src, (st.cell n).count + 1, (st.cell n).struck, (st.cell n).recd⟩) m
def nextOf (st : NbS) (n : Nat) : List Nat := (st.row.drop (st.row.idxOf n + 1)).take 1
def R_join (cC cX cS : Addr) (st : NbS) (ds : List PyData) (o : PyData ⊕ Addr) (st' : NbS) : Prop := ∃ d e, ds = [d, e] ∧
  ((isCellD st d = false ∧ o = .inr cC ∧ st' = st) ∨ (isCellD st d = true ∧ isCellD st e = false ∧ o = .inr cC ∧ st' = st) ∨ ∃ n ∈ st.row, ∃ m ∈ st.row, d = .int ((n : Nat) : Int) ∧ e = .int ((m : Nat) : Int) ∧
    (((nextOf st n ≠ [m] ∨ (st.cell n).struck ≠ (st.cell m).struck) ∧ o = .inr cX ∧ st' = st) ∨ (nextOf st n = [m] ∧ (st.cell n).struck = (st.cell m).struck ∧
      ((8 < (st.cell n).src.length + (st.cell m).src.length ∧ o = .inr cS ∧ st' = st) ∨ ((st.cell n).src.length + (st.cell m).src.length ≤ 8 ∧ (st.cell n).count < 5000 ∧ o = .inl .none ∧ st' = joinS st n m)))))
theorem goodS_drop {src : Src} (h : goodS src = true) (k : Nat) : goodS (src.drop k) = true := by
  unfold goodS at h ⊢
  rw [Bool.and_eq_true] at h ⊢
  refine ⟨decide_eq_true ?_, ?_⟩
  · have := of_decide_eq_true h.1
    rw [List.length_drop]
    omega
  · rw [List.all_eq_true] at *
    exact fun r hr => h.2 r (List.mem_of_mem_drop hr)
theorem goodS_take {src : Src} (h : goodS src = true) (k : Nat) : goodS (src.take k) = true := by
  unfold goodS at h ⊢
  rw [Bool.and_eq_true] at h ⊢
  refine ⟨decide_eq_true ?_, ?_⟩
  · have := of_decide_eq_true h.1
    rw [List.length_take]
    omega
  · have h2 := List.all_eq_true.mp h.2
    rw [List.all_eq_true]
    exact fun r hr => h2 r (List.mem_of_mem_take hr)
end LC

namespace LC
open PySem PySem.Spec PyProof.Rows L2 Evl
section
variable {K : Frag} {σ : L2.St} {B H H' : Hp} {ta tb te : TE} {d e z : PyData} {ds es : List PyData}
/-- two operands in a row, with a part for the data -/
theorem evb_op {r : R2} (ha : EvB K ta σ B H d) (hb : EvB K tb σ B H e) (hr : ∀ x y H1 A, Ex A H1 → Dt K A x d → Dt K A y e → ∀ Q : VK, (∀ v H2 C, Gr A H1 H2 C → Dt K C v z → Q v H2) → r x y H1 Q) : EvB K (tOp r ta tb) σ B H z := fun H1 e1 Q q =>
  ha H1 e1 _ fun x H2 A g hx => hb H2 (e1.trans g.ex) _ fun y H3 C g2 hy => hr x y H3 _ (g.join g2).d2 (dp_ex join_l _ _ hx) (dp_ex (join_r (g.d2.trans g2.ex) g2.d2) _ _ hy) Q fun v H4 C2 g3 hv => q v H4 C2
    ⟨(g.ex.trans g2.ex).trans g3.ex, (g.join g2).xd.trans g3.xd, g3.d2, fun a h0 h1 => g3.fr a ((g.join g2).fr a h0 h1) (ne_none (g.ex.trans g2.ex) h1)⟩ hv
theorem evb_addT (ha : EvB K ta σ B H (.tuple ds)) (hb : EvB K tb σ B H (.tuple es)) (hl : ds.length + es.length ≤ 100000) : EvB K (tOp (rAddU K) ta tb) σ B H (.tuple (ds ++ es)) := evb_op ha hb fun x y H1 A e hx hy Q q => by
  obtain ⟨a, xs, rfl, hs, h1⟩ := dp_tup hx
  obtain ⟨b, ys, rfl, ht, h2⟩ := dp_tup hy
  refine .inr (.inr (.inr ⟨a, b, xs, ys, rfl, rfl, ex_t e hs, ex_t e ht, by rw [dpAll_len h1, dpAll_len h2]; exact sz_of hl, fun z => ?_, fun _ z => ?_, fun _ _ p hp => ?_⟩))
  · subst z
    cases h1
    exact q _ H1 A (Gr.base e (Ex.refl H1)) (.tup ht h2)
  · subst z
    cases h2
    rw [List.append_nil] at q
    exact q _ H1 A (Gr.base e (Ex.refl H1)) (.tup hs h1)
  · exact q _ _ _ ((Gr.base e (Ex.refl H1)).new _ hp) (.tup (st_of upd_same) (dpAll_ex (Ex.new (fresh_back e hp)) _ _ (dpAll_app h1 h2)))
theorem evb_slL {lo hi : TO} {l h : Option Int} (ha : EvB K ta σ B H (.list ds)) (hl : EvO lo σ H l) (hh : EvO hi σ H h) : EvB K (tSl (rSlU K) ta lo hi) σ B H (.list (cutD ds l h)) := fun H1 e Q q =>
  ha H1 e _ fun v H2 A g hd => hl H2 (e.trans g.ex) _ fun H3 e3 => hh H3 ((e.trans g.ex).trans e3) _ fun H4 e4 => by
    obtain ⟨a, xs, rfl, hs, hall⟩ := dp_lst hd
    have g4 : Gr B H1 H4 A := g.more (e3.trans e4)
    exact .inl ⟨a, xs, rfl, sq_of (g4.d2 _ _ hs), fun p hp => q _ _ _ (g4.new _ hp) (.lst upd_same (dpAll_ex (Ex.new (fresh_back g4.d2 hp)) _ _ (cutV_dp hall l h)))⟩
end
theorem cut_mid (ds : List PyData) (a b : Nat) (h : a ≤ b) : cutD ds (some (a : Int)) (some (b : Int)) = (ds.drop a).take (b - a) := by
  unfold cutD
  rw [HT.sIx_nat, HT.sIx_nat]
  by_cases ha : a ≤ ds.length
  · rw [Nat.min_eq_left ha]
    by_cases hb : b ≤ ds.length
    · rw [Nat.min_eq_left hb]
    · rw [Nat.min_eq_right (by omega), List.take_of_length_le (by rw [List.length_drop]; omega), List.take_of_length_le (by rw [List.length_drop]; omega)]
  · rw [List.drop_eq_nil_of_le (as := ds) (i := a) (by omega), List.drop_eq_nil_of_le (as := ds) (i := min a ds.length) (by omega)]
    simp
theorem eqv_ints : ∀ l m : List Int, PyData.eqv (.list (l.map PyData.int)) (.list (m.map PyData.int)) = decide (l = m)
  | [], [] => rfl
  | [], _ :: _ => rfl
  | _ :: _, [] => rfl
  | x :: l, y :: m => by
    have ih := eqv_ints l m
    have e : PyData.eqv (.list ((x :: l).map PyData.int)) (.list ((y :: m).map PyData.int)) = ((x == y) && PyData.eqv (.list (l.map PyData.int)) (.list (m.map PyData.int))) := by
      simp only [List.map_cons, PyData.eqv, PyData.eqvAll]
    rw [e, ih, Bool.eq_iff_iff]
    simp
/-! ### join -/
theorem source_app {a b : Src} (ha : goodS a = true) (hb : goodS b = true) : isSource (encS (a ++ b)) = decide (a.length + b.length ≤ 8) := by
  show (decide (((a ++ b).map Rw.enc).length ≤ 8) && ((a ++ b).map Rw.enc).all isRow) = _
  have h : ((a ++ b).map Rw.enc).all isRow = true := by
    rw [List.all_eq_true]
    intro d hd
    obtain ⟨r, hr, rfl⟩ := List.mem_map.mp hd
    rcases List.mem_append.mp hr with h | h
    · exact isRow_enc r (goodS_row ha h)
    · exact isRow_enc r (goodS_row hb h)
  rw [h, Bool.and_true, List.length_map, List.length_append]
theorem ok_app {a b : Src} (ha : goodS a = true) (hb : goodS b = true) : okD (encS (a ++ b)) = true := by
  refine ok_tup_of fun d hd => ?_
  obtain ⟨r, hr, rfl⟩ := List.mem_map.mp hd
  rcases List.mem_append.mp hr with h | h
  · exact ok_row r (goodS_row ha h)
  · exact ok_row r (goodS_row hb h)
theorem enc_app (a b : Src) : PyData.tuple (a.map Rw.enc ++ b.map Rw.enc) = encS (a ++ b) := by
  rw [← List.map_append]
  rfl
theorem goodS_app {a b : Src} (ha : goodS a = true) (hb : goodS b = true) (hl : a.length + b.length ≤ 8) : goodS (a ++ b) = true := by
  unfold goodS at *
  rw [Bool.and_eq_true] at *
  refine ⟨decide_eq_true (by rw [List.length_append]; exact hl), ?_⟩
  rw [List.all_append, ha.2, hb.2]
  rfl
theorem next_ne (st : NbS) (n m : Nat) (hn : n ∈ st.row) : PyData.eqv (.list (cutD (st.row.map fun n : Nat => PyData.int (n : Int)) (some ((st.row.idxOf n : Int) + 1)) (some ((st.row.idxOf n : Int) + 2)))) (.list [.int (m : Int)]) = decide (nextOf st n = [m]) := by
  have e := cut_mid (st.row.map fun n : Nat => PyData.int (n : Int)) (st.row.idxOf n + 1) (st.row.idxOf n + 2) (by omega)
  have e1 : ((st.row.idxOf n : Int) + 1) = ((st.row.idxOf n + 1 : Nat) : Int) := by omega
  have e2 : ((st.row.idxOf n : Int) + 2) = ((st.row.idxOf n + 2 : Nat) : Int) := by omega
  rw [e1, e2, e, ← List.map_drop, ← List.map_take]
  have e3 : st.row.idxOf n + 2 - (st.row.idxOf n + 1) = 1 := by omega
  rw [e3]
  show PyData.eqv (.list ((nextOf st n).map fun n : Nat => PyData.int (n : Int))) _ = _
  have := eqv_ints ((nextOf st n).map fun n : Nat => (n : Int)) [(m : Int)]
  rw [List.map_map] at this
  refine Eq.trans this ?_
  rw [Bool.eq_iff_iff]
  simp only [decide_eq_true_eq]
  constructor
  · intro h
    cases hx : nextOf st n with
    | nil => rw [hx] at h; cases h
    | cons x l =>
      rw [hx] at h
      rw [List.map_cons] at h
      injection h with h1 h2
      have h2 : l = [] := List.map_eq_nil_iff.mp h2
      rw [h2]
      congr 1
      exact Int.ofNat.inj h1
  · intro h
    rw [h]
    rfl
end LC

namespace LC
open PySem PySem.Spec PyProof.Rows L2 Evl
/-! ### sorted(list of ints), list(range) -/
def sortL (ns : List Int) : List Int := ns.mergeSort fun a b => decide (a ≤ b)
theorem sortL_eq {ns ns' : List Int} (h : ns'.Perm ns) (p : ns'.Pairwise (· ≤ ·)) : ns' = sortL ns := by
  refine (h.trans (List.mergeSort_perm _ _).symm).eq_of_pairwise (le := fun a b => a ≤ b) (fun x y _ _ h1 h2 => by omega) p ?_
  refine (List.pairwise_mergeSort ?_ ?_ ns).imp fun h => of_decide_eq_true h
  · intro a b c h1 h2
    exact decide_eq_true (by have := of_decide_eq_true h1; have := of_decide_eq_true h2; omega)
  · intro a b
    simp only [Bool.or_eq_true, decide_eq_true_eq]
    omega
theorem kSortL {X : Cx} {K : Frag} (h : X.K = K) : CallR X (.builtin "sorted") (rSorted K) := h ▸ cr_sorted
section
variable {K : Frag} {σ : L2.St} {B H : Hp} {te tb ta : TE}
theorem evd_sortL {ns : List Int} (h : EvD K te σ H (.list (ns.map PyData.int))) (hl : ns.length < 64) : EvD K (tCB (rSorted K) (tCons te tNil)) σ H (.list ((sortL ns).map PyData.int)) := fun H1 e Q q =>
  h H1 e _ fun v H2 A g hd => by
    obtain ⟨a, xs, rfl, hs, hall⟩ := dp_lst hd
    have ex : xs = ns.map V.int := ints_inv hall
    subst ex
    refine ⟨a, ns, rfl, sq_of (g.d2 _ _ hs), hl, fun ns' p hp pw hn => ?_⟩
    rw [sortL_eq hp pw]
    exact q _ _ _ (g.new _ hn) (.lst upd_same (dt_ints _))
theorem evd_lstRg {n : Nat} (hn : n ≤ 1000) (h : EvD K te σ H (.int (n : Int))) : EvD K (tLstRg (tRg1 te)) σ H (.list ((List.range n).map fun i : Nat => PyData.int (i : Int))) := fun H1 e Q q =>
  h H1 e _ fun v H2 A g hd => by
    rw [dp_int hd]
    refine ⟨_, rfl, ⟨by omega, by omega, by omega, by omega, by omega⟩, fun p hp => ?_⟩
    have e : rgV 0 (n : Int) = (List.range n).map fun i : Nat => V.int (i : Int) := by
      unfold rgV
      simp
    rw [e]
    refine q _ _ _ (g.new _ hp) (.lst upd_same ?_)
    have := dt_ints (K := K) (H := upd A p (.lst ((List.range n).map fun i : Nat => V.int (i : Int)))) ((List.range n).map fun i : Nat => (i : Int))
    rw [List.map_map, List.map_map] at this
    exact this
/-! ### tests that call what changes -/
theorem tt_op {r : R2} {Q : Bool → Hp → Prop} (h : ta σ H fun x H1 => tb σ H1 fun y H2 => r x y H2 fun z H3 => ∃ b, z = .bl b ∧ Q b H3) : tTest (tOp r ta tb) σ H Q := h
theorem k_ne {v : V} {d e : PyData} {Q : Bool → Hp → Prop} (hv : Dt K B v d) (x : Ex B H) (hb : EvB K tb σ B H e) (sd : SeqAt.shaped d = true) (se : SeqAt.shaped e = true) (k : ∀ H2, Ex H H2 → Q (!PyData.eqv d e) H2) :
    tb σ H fun y H2 => rNeD K v y H2 fun z H3 => ∃ b, z = .bl b ∧ Q b H3 := hb H (Ex.refl H) _ fun y H2 Hd g hd => ⟨d, e, dt_dp _ _ (dp_ex (x.trans g.ex) _ _ hv), dt_dp _ _ (dp_ex g.d2 _ _ hd), sd, se, _, rfl, k H2 g.ex⟩
theorem k_eq {v : V} {d e : PyData} {Q : Bool → Hp → Prop} (hv : Dt K B v d) (x : Ex B H) (hb : EvB K tb σ B H e) (sd : SeqAt.shaped d = true) (se : SeqAt.shaped e = true) (k : ∀ H2, Ex H H2 → Q (PyData.eqv d e) H2) :
    tb σ H fun y H2 => rEqD K v y H2 fun z H3 => ∃ b, z = .bl b ∧ Q b H3 := hb H (Ex.refl H) _ fun y H2 Hd g hd => ⟨d, e, dt_dp _ _ (dp_ex (x.trans g.ex) _ _ hv), dt_dp _ _ (dp_ex g.d2 _ _ hd), sd, se, _, rfl, k H2 g.ex⟩
end
theorem s_or1 {t u : TT} {tu tw : TS} {D : Ends} {σ : L2.St} {H : Hp} (h : t σ H fun c H1 => if c = true then tu D σ H1 else u σ H1 fun b H2 => if b = true then tu D σ H2 else tw D σ H2) : tIfS (tOr t u) tu tw D σ H := h
theorem s_seqP {t u : TS} {D : Ends} {σ : L2.St} {H : Hp} (P : L2.St → Hp → Prop) (fin : ∀ σ H, P σ H → u D σ H) (k : (∀ σ H, P σ H → u D σ H) → t { D with nx := u D } σ H) : tSeq t u D σ H := k fin
theorem cutD_len (ds : List PyData) (l h : Option Int) : (cutD ds l h).length ≤ ds.length := by
  unfold cutD
  rw [List.length_take, List.length_drop]
  omega
theorem cut_upto (ds : List PyData) (n : Nat) : cutD ds none (some (n : Int)) = ds.take n := by
  unfold cutD
  rw [HT.sIx_none, HT.sIx_nat, List.drop_zero, Nat.sub_zero]
  by_cases h : n ≤ ds.length
  · rw [Nat.min_eq_left h]
  · rw [Nat.min_eq_right (by omega), List.take_of_length_le (Nat.le_refl _), List.take_of_length_le (by omega)]
/-! ### mix -/
def mixF (c p m : Int) : Int := (c * 48271 % p) ^ 3 % p % m
def F_mix (ds : List PyData) (d : PyData) : Prop := ∃ c p m : Int, ds = [.int c, .int p, .int m] ∧ 0 < p ∧ p < 1000000 ∧ 0 < m ∧ d = .int (mixF c p m)
theorem mix_lt {c p m : Int} (h : 0 < m) : 0 ≤ mixF c p m ∧ mixF c p m < m := by
  unfold mixF
  exact ⟨Int.emod_nonneg _ (by omega), Int.emod_lt_of_pos _ h⟩
/-! ### cut keeps the state good -/
theorem mem_cutS {st : NbS} {n k m : Nat} : m ∈ (cutS st n k).row ↔ m = st.after ∨ m ∈ st.row := mem_putS (src := (st.cell n).src.drop k)
theorem NbG.cut {st : NbS} (G : NbG st) {n k : Nat} (hn : n ∈ st.row) (hl : st.row.length < 30) (hf : st.after < 5000) (hc : (st.cell n).count < 5000) : NbG (cutS st n k) := by
  have hg := G.good n hn
  refine NbG.setS (NbG.setS (G.put (goodS_drop hg k) hl hf) (goodS_drop hg k) (Nat.zero_le _)) (goodS_take hg k) ?_
  show (st.cell n).count + 1 ≤ 5000
  omega
theorem cutS_len {st : NbS} {n k : Nat} : (cutS st n k).row.length = st.row.length + 1 := by
  show (st.row.take _ ++ [st.after] ++ st.row.drop _).length = _
  rw [List.length_append, List.length_append, List.length_take, List.length_drop, List.length_singleton]
  omega
theorem putS_len {st : NbS} {i : Nat} {src : Src} : (putS st i src).row.length = st.row.length + 1 := by
  show (st.row.take _ ++ [st.after] ++ st.row.drop _).length = _
  rw [List.length_append, List.length_append, List.length_take, List.length_drop, List.length_singleton]
  omega
/-- all numbers below after are there -/
theorem pigeon : ∀ (k : Nat) (row : List Nat), row.Nodup → (∀ n ∈ row, n < k) → row.length ≤ k
  | 0, row, _, lt => by
    cases row with
    | nil => exact Nat.le_refl _
    | cons a l => exact absurd (lt a (List.mem_cons_self ..)) (by omega)
  | k + 1, row, nd, lt => by
    have ih := pigeon k (row.erase k) (nd.erase k) fun n hn => by
      have h := (List.Nodup.mem_erase_iff nd).mp hn
      have := lt n h.2
      have := h.1
      omega
    have := List.length_erase (a := k) (l := row)
    split at this <;> omega
theorem row_all {row : List Nat} {k : Nat} (nd : row.Nodup) (lt : ∀ n ∈ row, n < k) (len : row.length = k) {m : Nat} (hm : m < k) : m ∈ row := by
  refine Classical.byContradiction fun h => ?_
  have := pigeon k (m :: row) (List.nodup_cons.mpr ⟨h, nd⟩) fun n hn => by
    rcases List.mem_cons.mp hn with rfl | hn
    · exact hm
    · exact lt n hn
  rw [List.length_cons] at this
  omega
theorem row_full {row : List Nat} {k : Nat} (nd : row.Nodup) (lt : ∀ n ∈ row, n < k) (len : row.length = k) : row.Perm (List.range k) :=
  (List.perm_ext_iff_of_nodup nd List.nodup_range).mpr fun m => ⟨fun h => List.mem_range.mpr (lt m h), fun h => row_all nd lt len (List.mem_range.mp h)⟩
theorem sort_perm {row : List Nat} {k : Nat} (h : row.Perm (List.range k)) : sortL (row.map fun n : Nat => (n : Int)) = (List.range k).map fun n : Nat => (n : Int) := by
  refine (sortL_eq (h.symm.map _) ?_).symm
  rw [List.pairwise_map]
  exact List.pairwise_lt_range.imp fun h => by omega
/-! ### k19 -/
def rowsS (m : Nat) : Src := (List.range m).map fun k : Nat => Rw.shw (.num (k : Int))
theorem rowsS_good {m : Nat} (h : m ≤ 8) : goodS (rowsS m) = true := by
  unfold goodS rowsS
  rw [Bool.and_eq_true]
  refine ⟨decide_eq_true (by rw [List.length_map, List.length_range]; exact h), ?_⟩
  rw [List.all_map, List.all_eq_true]
  intro k hk
  have := List.mem_range.mp hk
  simp [Rw.good, Sm.good, Sm.depth, Function.comp]
  omega
theorem rowsS_len (m : Nat) : (rowsS m).length = m := by unfold rowsS; rw [List.length_map, List.length_range]
theorem rows2_good {m : Nat} (h : m ≤ 8) : goodS (rowsS m ++ (rowsS m).take (8 - m)) = true :=
  goodS_app (rowsS_good h) (goodS_take (rowsS_good h) _) (by rw [List.length_take, rowsS_len]; omega)
theorem shN (l : List Nat) : SeqAt.shaped (.list (l.map fun n : Nat => PyData.int (n : Int))) = true := by
  refine shaped_of (ok_lst_of fun d hd => ?_) (Nat.le_trans (depth_list (n := 0) fun d hd => ?_) (by decide))
  · obtain ⟨q, _, rfl⟩ := List.mem_map.mp hd
    rfl
  · obtain ⟨q, _, rfl⟩ := List.mem_map.mp hd
    exact Nat.le_refl _
theorem eqv_self {d : PyData} (h : SeqAt.shaped d = true) : PyData.eqv d d = true := SeqAt.eqv_refl _ (SeqAt.canLay_of_shaped h)
theorem atI_m2 {α : Type} (l : List α) (x y : α) : atI (l ++ [x, y]) (-2) = some x := by
  have e : ixN (l ++ [x, y]).length (-2) = some l.length := by
    unfold ixN
    rw [List.length_append]
    show (if (0 : Int) ≤ -2 then _ else if -((l.length + 2 : Nat) : Int) ≤ -2 then some ((-2 : Int) + ((l.length + 2 : Nat) : Int)).toNat else none) = some l.length
    rw [if_neg (by decide), if_pos (by omega)]
    congr 1
    omega
  unfold atI
  rw [e]
  simp
theorem next_end {t0 : List Nat} {x y : Nat} (nd : (t0 ++ [x, y]).Nodup) : ((t0 ++ [x, y]).drop ((t0 ++ [x, y]).idxOf x + 1)).take 1 = [y] := by
  have hx : x ∉ t0 := fun h => by
    rw [List.nodup_append] at nd
    exact nd.2.2 x h x (by simp) rfl
  have e : (t0 ++ [x, y]).idxOf x = t0.length := by
    rw [List.idxOf_append]
    rw [if_neg hx]
    simp
  rw [e]
  simp
structure I19 (st : NbS) (k : Nat) : Prop where
  G : NbG st
  len : st.row.length = k
  af : st.after = k
  pl : ∀ n ∈ st.row, (st.cell n).struck = false ∧ (st.cell n).count ≤ k
theorem I19.st0 : I19 st0 0 := ⟨NbG.st0, rfl, rfl, fun _ h => nomatch h⟩
theorem I19.all {st : NbS} {k m : Nat} (I : I19 st k) (h : m < k) : m ∈ st.row := row_all I.G.nd (fun n hn => by have := I.G.lt n hn; rw [I.af] at this; exact this) I.len h
theorem I19.put {st : NbS} {k i : Nat} {src : Src} (I : I19 st k) (hk : k < 30) (hg : goodS src = true) : I19 (putS st i src) (k + 1) := by
  have hna : st.after ∉ st.row := fun h => by have := I.G.lt _ h; omega
  refine ⟨I.G.put hg (by rw [I.len]; exact hk) (by rw [I.af]; omega), by rw [putS_len, I.len], by show st.after + 1 = _; rw [I.af], fun n hn => ?_⟩
  show (if n = st.after then newCell src else st.cell n).struck = false ∧ (if n = st.after then newCell src else st.cell n).count ≤ k + 1
  rcases mem_putS.mp hn with h | h
  · rw [if_pos h]
    exact ⟨rfl, Nat.zero_le _⟩
  · rw [if_neg (fun z : n = st.after => hna (z ▸ h))]
    have := I.pl n h
    exact ⟨this.1, by omega⟩
theorem I19.cut {st : NbS} {k n j : Nat} (I : I19 st k) (hk : k < 30) (hn : n ∈ st.row) : I19 (cutS st n j) (k + 1) := by
  have hna : st.after ∉ st.row := fun h => by have := I.G.lt _ h; omega
  have pn := I.pl n hn
  refine ⟨I.G.cut hn (by rw [I.len]; exact hk) (by rw [I.af]; omega) (by omega), by rw [cutS_len, I.len], by show st.after + 1 = _; rw [I.af], fun m hm => ?_⟩
  unfold cutS LC.setS
  dsimp only
  by_cases e1 : m = n
  · rw [if_pos e1]
    exact ⟨pn.1, by dsimp only; omega⟩
  · rw [if_neg e1]
    by_cases e2 : m = st.after
    · rw [if_pos e2]
      exact ⟨pn.1, Nat.zero_le _⟩
    · rw [if_neg e2]
      rcases mem_cutS.mp hm with h | h
      · exact absurd h e2
      · have := I.pl m h
        show (if m = st.after then _ else st.cell m).struck = false ∧ (if m = st.after then _ else st.cell m).count ≤ _
        rw [if_neg e2]
        exact ⟨this.1, by omega⟩
end LC

namespace LC
open PySem PySem.Spec PyProof.Rows L2 Evl LamX NdefX
/-! ### a finer room: one for a frame -/
structure Rm (d : Nat) (A : Around) : Prop where
  hd : A.handled = none
  dp : A.depth + d + 60 < recursionLimit
  un : A.units + 4 * d + 700 < cLine
section
variable {A : Around} {d e k : Nat}
theorem Rm.mono (r : Rm d A) (h : e ≤ d) : Rm e A := ⟨r.hd, by have := r.dp; omega, by have := r.un; omega⟩
theorem Rm.deeper (r : Rm (d + 1) A) (env : Env) : Rm d (A.deeper env) :=
  ⟨r.hd, by have := r.dp; show A.depth + 1 + d + 60 < _; omega, by have := r.un; show A.units + 3 + 4 * d + 700 < _; omega⟩
theorem Rm.room (r : Rm d A) (h : 3 * k ≤ d + 55) (h2 : 4 * k ≤ d + 125) : Room k A := ⟨r.hd, by have := r.dp; omega, by have := r.un; omega⟩
theorem Rm.room18 (r : Rm d A) : Room 18 A := r.room (by omega) (by omega)
theorem Rm.of (r : Room k A) (h : d + 55 ≤ 3 * k) (h2 : d + 125 ≤ 4 * k) : Rm d A := ⟨r.hd, by have := r.dp; omega, by have := r.un; omega⟩
theorem Rm.depth (r : Rm d A) : A.depth < recursionLimit := by have := r.dp; omega
end
/-- a def's promise by the finer room -/
structure FnR (P : Program) (w : World) (K : Frag) (mg : Str → Option Value) (base : Heap) (CX : CXT) (d : Nat) (f : Addr) (fd : FuncData) (ps : List Str) (sp : Sp) : Prop where
  len : ∀ vs H Q E, sp vs H Q E → vs.length = ps.length
  go : ∀ (A : Around) (out : List Env) (s : Shared) (H : Hp) (ar : Args) (us : List Value) (vs : List V) (Q : VK) (E : XK), Rm d A → Env0 P w K mg base A out s H → BindsTo s fd ar (ps.zip us) → Vals vs us → sp vs H Q E →
    codeAny (model P w) A (.call (.ref f) ar) (CR CX out P w H s Q E) s
section
variable {P : Program} {w : World} {K : Frag} {mg : Str → Option Value} {base : Heap} {CX : CXT} {d e k : Nat} {f C : Addr} {fd : FuncData} {ps N : List Str} {sp sp' : Sp} {x q m : Str} {st : Stmt}
theorem FnR.mono (F : FnR P w K mg base CX d f fd ps sp) (h : d ≤ e) : FnR P w K mg base CX e f fd ps sp := ⟨F.len, fun A out s H ar us vs Q E r => F.go A out s H ar us vs Q E (r.mono h)⟩
theorem FnR.imp (F : FnR P w K mg base CX d f fd ps sp) (h : ∀ vs H Q E, sp' vs H Q E → sp vs H Q E) : FnR P w K mg base CX d f fd ps sp' :=
  ⟨fun vs H Q E z => F.len vs H Q E (h _ _ _ _ z), fun A out s H ar us vs Q E r e0 b v z => F.go A out s H ar us vs Q E r e0 b v (h _ _ _ _ z)⟩
theorem FnR.of (F : FnOk P w K mg base CX k f fd ps sp) (h : 3 * k ≤ d + 55) (h2 : 4 * k ≤ d + 125) : FnR P w K mg base CX d f fd ps sp := ⟨F.len, fun A out s H ar us vs Q E r => F.run A out s H ar us vs Q E (r.room h h2)⟩
/-- a def by its body, with the finer room -/
theorem fnR_of (F : FnP K x q st f fd) (S : FnScope N ps (defScope st)) (len : ∀ vs H Q E, sp vs H Q E → vs.length = ps.length)
    (hbody : ∀ (cdv : Value) (A : Around) (out : List Env) (s : Shared) (H : Hp) (vs : List V) (Q : VK) (E : XK), Rm d (A.deeper (envOfC q (defScope st) s.heap.objs.size f cdv)) → sp vs H Q E →
      ∃ t, PSs (cxOf CX P w K mg base N q (defScope st) f cdv A out s H E) (defBody st) t ∧ t { nx := fun _ H' => Q .non H', rt := Q } (start N vs) H) : FnR P w K mg base CX (d + 1) f fd ps sp := by
  obtain ⟨oc, od, dV, kV, doc, pm, an, cdv, ct, osl, rfl, lk, hcd, _, _⟩ := F.ex
  refine ⟨len, fun A out s H ar us vs Q E rm e0 bi rv hsp => ?_⟩
  have lv := len _ _ _ _ hsp
  have inK : K.In s.heap := e0.mod.kin.keeps fun b o z => (e0.bs b o z).1
  have nl : s.heap.NoLimit := e0.mod.nolimit.keeps fun b o z => (e0.bs b o z).1
  have kinds : ∀ y ∈ ps.zip us, (defScope st).names.lookup y.1 = some .local ∨ ((defScope st).names.lookup y.1 = some .cell ∧ ((cellsFrom (s.heap.objs.size + 1) (defScope st).names []).lookup y.1).isSome = true) := fun y hy =>
    (S.par y.1 (List.of_mem_zip (a := y.1) (b := y.2) hy).1).imp id fun z => ⟨z, PySem.W.cellsFrom_some _ _ _ (.inl z)⟩
  refine codeAny_call_function rm.depth (inK _ _ lk) rfl S.co S.gen rfl (PySem.W.codeRec_of inK hcd) (bi _ _ _ _ ?_)
  refine wpAny_newFunctionEnv_cells S.kind kinds fun env ee s1 ic => ?_
  subst ee
  refine ⟨nl.keeps ic.toInCall.keep, codeAny_func ?_⟩
  obtain ⟨t, ht, hq⟩ := hbody cdv A out s H vs Q E (rm.deeper _) hsp
  have I0 := inv_start (CX := CX) (E := E) S rm.hd e0 lv rv ic
  refine wpAny_mono (ht.run [] s1 (start N vs) H _ I0 hq) (fun fl s' hs => ?_) fun _ _ z => z
  match fl, hs with
  | .ret u, ⟨v, σ', H', J, r1, z⟩ => exact ⟨v, H', J.os, J.bare, J.base, J.hok, r1, z⟩
  | .next, ⟨σ', H', J, z⟩ => exact ⟨.non, H', J.os, J.bare, J.base, J.hok, rfl, z⟩
  | .brk, ⟨_, _, _, z⟩ => exact z.elim
  | .cont, ⟨_, _, _, z⟩ => exact z.elim
/-- by names -/
def HasR (P : Program) (w : World) (K : Frag) (mg : Str → Option Value) (base : Heap) (CX : CXT) (d : Nat) (x : Str) (ps : List Str) (sp : Sp) : Prop :=
  ∃ f fd, FnR P w K mg base CX d f fd ps sp ∧ Binds K fd ps [] ∧ PySem.W.keepIn K (.ref f) = true ∧ mg x = some (.ref f)
def HasMR (P : Program) (w : World) (K : Frag) (mg : Str → Option Value) (base : Heap) (CX : CXT) (d : Nat) (C : Addr) (m : Str) (ps : List Str) (sp : Sp) : Prop :=
  ∃ f fd, FnR P w K mg base CX d f fd ps sp ∧ Binds K fd ps [] ∧ Meth K C m f
theorem Has.toR (F : Has P w K mg base CX k x ps sp) (h : 3 * k ≤ d + 55) (h2 : 4 * k ≤ d + 125) : HasR P w K mg base CX d x ps sp := by
  obtain ⟨f, fd, F, r⟩ := F
  exact ⟨f, fd, FnR.of F h h2, r⟩
theorem HasM.toR (F : HasM P w K mg base CX k C m ps sp) (h : 3 * k ≤ d + 55) (h2 : 4 * k ≤ d + 125) : HasMR P w K mg base CX d C m ps sp := by
  obtain ⟨f, fd, F, r⟩ := F
  exact ⟨f, fd, FnR.of F h h2, r⟩
theorem HasR.imp (F : HasR P w K mg base CX d x ps sp) (h : ∀ vs H Q E, sp' vs H Q E → sp vs H Q E) : HasR P w K mg base CX d x ps sp' := by
  obtain ⟨f, fd, F, r⟩ := F
  exact ⟨f, fd, F.imp h, r⟩
theorem HasMR.imp (F : HasMR P w K mg base CX d C m ps sp) (h : ∀ vs H Q E, sp' vs H Q E → sp vs H Q E) : HasMR P w K mg base CX d C m ps sp' := by
  obtain ⟨f, fd, F, r⟩ := F
  exact ⟨f, fd, F.imp h, r⟩
theorem HasR.mono (F : HasR P w K mg base CX d x ps sp) (h : d ≤ e) : HasR P w K mg base CX e x ps sp := by
  obtain ⟨f, fd, F, r⟩ := F
  exact ⟨f, fd, F.mono h, r⟩
theorem HasMR.mono (F : HasMR P w K mg base CX d C m ps sp) (h : d ≤ e) : HasMR P w K mg base CX e C m ps sp := by
  obtain ⟨f, fd, F, r⟩ := F
  exact ⟨f, fd, F.mono h, r⟩
theorem hasR_x (F : FnP K x q st f fd) (g : mg x = some (.ref f)) (b : Binds K fd ps []) (S : FnScope N ps (defScope st)) (len : ∀ vs H Q E, sp vs H Q E → vs.length = ps.length)
    (hbody : ∀ (cdv : Value) (A : Around) (out : List Env) (s : Shared) (H : Hp) (vs : List V) (Q : VK) (E : XK), Rm d (A.deeper (envOfC q (defScope st) s.heap.objs.size f cdv)) → sp vs H Q E →
      ∃ t, PSs (cxOf (L2.CX P w) P w K mg base N q (defScope st) f cdv A out s H E) (defBody st) t ∧ t { nx := fun _ H' => Q .non H', rt := Q } (start N vs) H) : HasR P w K mg base (L2.CX P w) (d + 1) x ps sp := ⟨f, fd, fnR_of F S len hbody, b, F.kp, g⟩
theorem hasMR_x (F : FnP K x q st f fd) (g : Meth K C m f) (b : Binds K fd ps []) (S : FnScope N ps (defScope st)) (len : ∀ vs H Q E, sp vs H Q E → vs.length = ps.length)
    (hbody : ∀ (cdv : Value) (A : Around) (out : List Env) (s : Shared) (H : Hp) (vs : List V) (Q : VK) (E : XK), Rm d (A.deeper (envOfC q (defScope st) s.heap.objs.size f cdv)) → sp vs H Q E →
      ∃ t, PSs (cxOf (L2.CX P w) P w K mg base N q (defScope st) f cdv A out s H E) (defBody st) t ∧ t { nx := fun _ H' => Q .non H', rt := Q } (start N vs) H) : HasMR P w K mg base (L2.CX P w) (d + 1) C m ps sp := ⟨f, fd, fnR_of F S len hbody, b, g⟩
theorem hasR_p (F : FnP K x q st f fd) (g : mg x = some (.ref f)) (b : Binds K fd ps []) (S : FnScope N ps (defScope st)) (len : ∀ vs H Q E, sp vs H Q E → vs.length = ps.length)
    (hbody : ∀ (cdv : Value) (A : Around) (out : List Env) (s : Shared) (H : Hp) (vs : List V) (Q : VK) (E : XK), Rm d (A.deeper (envOfC q (defScope st) s.heap.objs.size f cdv)) → sp vs H Q E →
      ∃ t, PSs (cxOf CX0 P w K mg base N q (defScope st) f cdv A out s H E).nox (defBody st) t ∧ t { nx := fun _ H' => Q .non H', rt := Q } (start N vs) H) : HasR P w K mg base CX0 (d + 1) x ps sp := ⟨f, fd, fnR_of F S len (fun cdv A out s H vs Q E r h => by
    obtain ⟨t, ht, z⟩ := hbody cdv A out s H vs Q E r h
    exact ⟨t, PSs.nox ht, z⟩), b, F.kp, g⟩
theorem hasMR_p (F : FnP K x q st f fd) (g : Meth K C m f) (b : Binds K fd ps []) (S : FnScope N ps (defScope st)) (len : ∀ vs H Q E, sp vs H Q E → vs.length = ps.length)
    (hbody : ∀ (cdv : Value) (A : Around) (out : List Env) (s : Shared) (H : Hp) (vs : List V) (Q : VK) (E : XK), Rm d (A.deeper (envOfC q (defScope st) s.heap.objs.size f cdv)) → sp vs H Q E →
      ∃ t, PSs (cxOf CX0 P w K mg base N q (defScope st) f cdv A out s H E).nox (defBody st) t ∧ t { nx := fun _ H' => Q .non H', rt := Q } (start N vs) H) : HasMR P w K mg base CX0 (d + 1) C m ps sp := ⟨f, fd, fnR_of F S len (fun cdv A out s H vs Q E r h => by
    obtain ⟨t, ht, z⟩ := hbody cdv A out s H vs Q E r h
    exact ⟨t, PSs.nox ht, z⟩), b, g⟩
end
section
variable {X : Cx} {CX : CXT} {d e k : Nat} {f C : Addr} {fd : FuncData} {ps : List Str} {sp : Sp} {E : L2.St → XK} {x m : Str} {p pos apos : Pos} {a o : Expr} {es : List Expr} {ta : TE} {t : TA}
theorem run_R {pins : List (Addr × Obj)} {σ : L2.St} {H : Hp} {s : Shared} {Q : VK} {us : List Value} {vs : List V} (F : FnR X.prog X.w X.K X.mg X.base CX d f fd ps sp) (rm : Rm d X.A) (hb : Binds X.K fd ps []) (hx : PassesAt CX X σ (E σ))
    (I : Inv X pins σ H s) (rv : Vals vs us) (h : sp vs H Q (E σ)) : wpAny (model X.prog X.w) X.A (call (.ref f) us) (EP X pins σ Q) X.xe s := by
  have lu : us.length = ps.length := by rw [← rv.length]; exact F.len _ _ _ _ h
  have bi := hb s us I.kIn (by rw [List.append_nil]; exact lu)
  rw [List.append_nil] at bi
  refine wpAny_call (codeAny_mono (F.go X.A X.stack s H ⟨us, []⟩ us vs Q (E σ) rm I.env0 bi rv h) fun res s' z => ?_)
  match res, z with
  | .error er, z => exact hx pins H s er s' I z
  | .ok (.ret u), z => exact I.after z
  | .ok .next, z => exact z.elim
  | .ok .brk, z => exact z.elim
  | .ok .cont, z => exact z.elim
/-- f(..) of the module -/
theorem pe_hasR (F : HasR X.prog X.w X.K X.mg X.base CX d x ps sp) (rm : Rm e X.A) (hk : d ≤ e) (hg : Gl X x) (hx : ∀ σ, PassesAt CX X σ (E σ)) (ha : PA X (a :: es) t) (hdb : (x == ("__debug__" : Str)) = false := by decide)
    (he : starEach (a :: es) X.env = (false, eval a X.env) :: starEach es X.env := by rfl) (hpl : (backTo pos (starEach es X.env)).any (·.1) = false := by rfl) : PE X (.Call (.Name x p) (a :: es) [] pos) (tCallS sp E t) := by
  obtain ⟨f, fd, G, b, kp, mx⟩ := F
  refine ⟨fun pins s σ H Q I h => wpAny_Call_Name_kw (ld_glob I hg mx ?_ hdb)⟩
  refine PySem.W.callWith_K (h₀ := X.base) I.ok.mod.kin kp (thn (ha.run pos pins s σ H _ I h) fun us s1 z => ?_) he hpl
  obtain ⟨vs, H1, I1, r1, q1⟩ := z
  exact ⟨I1.kIn, run_R G (rm.mono hk) b (hx σ) I1 r1 q1⟩
theorem pe_hasR0 (F : HasR X.prog X.w X.K X.mg X.base CX d x ps sp) (rm : Rm e X.A) (hk : d ≤ e) (hg : Gl X x) (hx : ∀ σ, PassesAt CX X σ (E σ)) (hdb : (x == ("__debug__" : Str)) = false := by decide) : PE X (.Call (.Name x p) [] [] pos) (tCallS sp E tNil) := by
  obtain ⟨f, fd, G, b, kp, mx⟩ := F
  refine ⟨fun pins s σ H Q I h => wpAny_Call_Name_kw (ld_glob I hg mx ?_ hdb)⟩
  exact PySem.W.callWith_K0 (first := []) I.kIn kp (run_R G (rm.mono hk) b (hx σ) I .nil h)
/-- o.m(..) -/
theorem pe_hmR {pl : Sem Bool} (he : PE X o ta) (c : Cls X.K C) (F : HasMR X.prog X.w X.K X.mg X.base CX d C m ps sp) (rm : Rm e X.A) (hk : d ≤ e) (hx : ∀ σ, PassesAt CX X σ (E σ)) (ha : PA X (a :: es) t)
    (hst : starEach (a :: es) X.env = (false, eval a X.env) :: starEach es X.env := by rfl) (hpl : (backTo pos (starEach es X.env)).any (·.1) = false := by rfl)
    (ht : eval (.Call (.Attribute o m apos) (a :: es) [] pos) X.env = (do
      let ov ← eval o X.env
      standAt apos.atName
      let (f, first) ← holding [ov] (getMethod ov m pl)
      callWith pos f first (backTo pos (starEach (a :: es) X.env)) (backToKw pos (keywordEach [] X.env))) := by rfl) :
    PE X (.Call (.Attribute o m apos) (a :: es) [] pos) (tMet C m sp E ta t) := by
  obtain ⟨f, fd, G, b, hm⟩ := F
  refine ⟨fun pins s σ H Q I h => ?_⟩
  refine PySem.W.methodCall_KW (pl := pl) (thn (he.run pins s σ H _ I h) fun u s1 ⟨y, H1, I1, ry, b1, dx, fs, ey, eb, l, z⟩ => ?_) ht
  subst ey
  obtain rfl : u = Value.ref b1 := ry
  refine getmeth_ok I1 eb c hm l ?_
  refine PySem.W.callWith_K (first := [.ref b1]) (h₀ := X.base) I.ok.mod.kin hm.kp (thn (ha.run pos pins s1 σ H1 _ I1 z) fun us s2 z2 => ?_) hst hpl
  obtain ⟨vs, H2, I2, r2, q2⟩ := z2
  exact ⟨I2.kIn, run_R (us := .ref b1 :: us) (vs := .ref b1 :: vs) G (rm.mono hk) b (hx σ) I2 (.cons rfl r2) q2⟩
theorem pe_hmR0 {pl : Sem Bool} (he : PE X o ta) (c : Cls X.K C) (F : HasMR X.prog X.w X.K X.mg X.base CX d C m ps sp) (rm : Rm e X.A) (hk : d ≤ e) (hx : ∀ σ, PassesAt CX X σ (E σ))
    (ht : eval (.Call (.Attribute o m apos) [] [] pos) X.env = (do
      let ov ← eval o X.env
      standAt apos.atName
      let (f, first) ← holding [ov] (getMethod ov m pl)
      callWith pos f first (backTo pos (starEach [] X.env)) (backToKw pos (keywordEach [] X.env))) := by rfl) :
    PE X (.Call (.Attribute o m apos) [] [] pos) (tMet C m sp E ta tNil) := by
  obtain ⟨f, fd, G, b, hm⟩ := F
  refine ⟨fun pins s σ H Q I h => ?_⟩
  refine PySem.W.methodCall_KW (pl := pl) (thn (he.run pins s σ H _ I h) fun u s1 ⟨y, H1, I1, ry, b1, dx, fs, ey, eb, l, z⟩ => ?_) ht
  subst ey
  obtain rfl : u = Value.ref b1 := ry
  refine getmeth_ok I1 eb c hm l ?_
  exact PySem.W.callWith_K0 (first := [.ref b1]) I1.kIn hm.kp (run_R (us := [.ref b1]) (vs := [.ref b1]) G (rm.mono hk) b (hx σ) I1 (.cons rfl .nil) z)
end
end LC

namespace LC
open PySem PySem.Spec PyProof.Rows L2 Evl LamX NdefX
/-! ### cells that outlive their frame -/
/-- a cell that holds v -/
def CellO (c : Addr) (v : V) : HO := .ext fun h => ∃ u, RelV v u ∧ h.IsCell c (some u)
section
variable {P : Program} {w : World} {H H' : Hp} {h : Heap} {c a : Addr} {v : V} {u : Value} {C : Addr → Prop}
theorem cellO_ok (r : RelV v u) (hc : h.IsCell c (some u)) : ObjOk P w H h c (CellO c v) := by
  obtain ⟨o, ho, hd⟩ := hc
  exact ⟨⟨u, r, o, ho, hd⟩, ⟨o, ho⟩, fun h1 h2 ⟨u, r, o, ho, hd⟩ k => ⟨u, r, o, k _ ho, hd⟩⟩
theorem cellO_at (hok : HOk P w H h) (e : H c = some (CellO c v)) : ∃ u, RelV v u ∧ h.IsCell c (some u) := (hok c _ e).1
theorem cellO_tup {xs : List V} : CellO c v ≠ .tup xs := fun z => by unfold CellO at z; cases z
theorem cellO_own {x : Addr} : CellO c v ≠ .own x := fun z => by unfold CellO at z; cases z
theorem cellO_frz {o : Obj} {u : HO} : CellO c v ≠ .frz o u := fun z => by unfold CellO at z; cases z
theorem cellO_tbl {ps : Array Value} : CellO c v ≠ .tbl ps := fun z => by unfold CellO at z; cases z
open Classical in
noncomputable def hide (C : Addr → Prop) (H : Hp) : Hp := fun a => if C a then none else H a
open Classical in
noncomputable def back (C : Addr → Prop) (H H' : Hp) : Hp := fun a => if C a then H a else H' a
theorem hide_in (h : C a) : hide C H a = none := if_pos h
theorem hide_out (h : ¬ C a) : hide C H a = H a := if_neg h
theorem back_in (h : C a) : back C H H' a = H a := if_pos h
theorem back_out (h : ¬ C a) : back C H H' a = H' a := if_neg h
theorem hide_some {o : HO} (h : hide C H a = some o) : ¬ C a ∧ H a = some o := by
  by_cases z : C a
  · rw [hide_in z] at h; cases h
  · rw [hide_out z] at h; exact ⟨z, h⟩
theorem hide_none (h : H a = none) : hide C H a = none := by
  by_cases z : C a
  · exact hide_in z
  · rw [hide_out z]; exact h
/-- the addresses of C are cells -/
def AreC (C : Addr → Prop) (H : Hp) : Prop := ∀ c, C c → ∃ v, H c = some (CellO c v)
theorem AreC.not (hC : AreC C H) {o : HO} (h : H a = some o) (n : ∀ c v, CellO c v ≠ o) : ¬ C a := fun z => by
  obtain ⟨v, e⟩ := hC a z
  rw [h] at e
  exact n _ _ (Option.some.inj e).symm
theorem HOk.hide (hok : HOk P w H h) (hC : AreC C H) : HOk P w (LC.hide C H) h := fun a o q => by
  obtain ⟨_, q⟩ := hide_some q
  exact (hok a o q).stay (fun _ _ _ e => e) (fun b hb => by rw [hide_out (hC.not hb fun _ _ => cellO_own)]; exact hb) (fun b xs hb => by rw [hide_out (hC.not hb fun _ _ => cellO_tup)]; exact hb)
/-- the cells are told of again -/
theorem HOk.back {h' : Heap} (hok : HOk P w H h) (hC : AreC C H) (k : ∀ c o, C c → h.get? c = some o → h'.get? c = some o) (n : ∀ c, C c → H' c = none) (hok' : HOk P w H' h') : HOk P w (LC.back C H H') h' := fun a o q => by
  by_cases z : C a
  · rw [back_in z] at q
    obtain ⟨v, e⟩ := hC a z
    rw [q] at e
    cases e
    obtain ⟨u, r, ob, ho, hd⟩ := cellO_at hok q
    exact cellO_ok r ⟨ob, k a ob z ho, hd⟩
  · rw [back_out z] at q
    have nn : ∀ b o, H' b = some o → ¬ C b := fun b o e zb => by rw [n b zb] at e; cases e
    exact (hok' a o q).stay (fun _ _ _ e => e) (fun b hb => by rw [back_out (nn b _ hb)]; exact hb) (fun b xs hb => by rw [back_out (nn b _ hb)]; exact hb)
end
section
variable {P : Program} {w : World} {H H' : Hp} {s s' : Shared} {C : Addr → Prop} {out : List Env} {Q : VK} {E : XK} {u : Value}
/-- behind a call over the hidden heap -/
theorem ce_back (hC : AreC C H) (hok : HOk P w H s.heap) (hf : ∀ b ∈ frs out, H b = none) (h : CE out P w (hide C H) s (fun v H' => (∀ c, C c → H' c = none) → Q v (back C H H')) u s') : CE out P w H s Q u s' := by
  obtain ⟨v, H', os, ba, un, hok', r, q⟩ := h
  have nf : ∀ c, C c → c ∉ frs out := fun c hc z => by
    obtain ⟨v, e⟩ := hC c hc
    rw [hf c z] at e
    cases e
  have obj : ∀ c, C c → ∃ o, s.heap.get? c = some o := fun c hc => by
    obtain ⟨v, e⟩ := hC c hc
    obtain ⟨_, _, o, ho, _⟩ := cellO_at hok e
    exact ⟨o, ho⟩
  have n : ∀ c, C c → H' c = none := fun c hc => by
    obtain ⟨o, ho⟩ := obj c hc
    exact un.free c o ho (hide_in hc) (by simp)
  refine ⟨v, back C H H', os, ba, ⟨fun b o e h0 hb hx => un.keep b o e (hide_none h0) hb hx, fun b o e h0 hb hx => un.slot b o e (hide_none h0) hb hx, fun b o e h0 hx => ?_, fun b o e hx => un.there b o e hx, fun b xs e => ?_, fun b o z e => ?_, fun b ps e => ?_⟩, HOk.back hok hC (fun c o hc e => un.keep c o e (hide_in hc) (nf c hc) (by simp)) n hok', r, q n⟩
  · by_cases z : C b
    · rw [back_in z]; exact h0
    · rw [back_out z]; exact un.free b o e (hide_none h0) hx
  · have z := hC.not e fun _ _ => cellO_tup
    rw [back_out z]
    exact un.tups b xs (by rw [hide_out z]; exact e)
  · have z' := hC.not e fun _ _ => cellO_frz
    rw [back_out z']
    exact un.frzs b o z (by rw [hide_out z']; exact e)
  · have z := hC.not e fun _ _ => cellO_tbl
    rw [back_out z]
    exact un.tbls b ps (by rw [hide_out z]; exact e)
/-- what may leave a call, over the hidden heap -/
def CxBack (P : Program) (w : World) (CX : CXT) : Prop := ∀ (C : Addr → Prop) (out : List Env) (H : Hp) (s : Shared) (E : XK) (e : Value) (s' : Shared), AreC C H → HOk P w H s.heap → (∀ b ∈ frs out, H b = none) →
  CX out (hide C H) s (fun cls d H' => (∀ c, C c → H' c = none) → E cls d (back C H H')) e s' → CX out H s E e s'
theorem cxBack0 : CxBack P w CX0 := fun _ _ _ _ _ _ _ _ _ _ z => z
theorem cxBack : CxBack P w (L2.CX P w) := by
  intro C out H s E e s' hC hok hf h
  obtain ⟨a, B, H', cls, d, ea, fl, hok', ub, na, os, ba, q⟩ := h
  have nf : ∀ c, C c → c ∉ frs out := fun c hc z => by
    obtain ⟨v, e⟩ := hC c hc
    rw [hf c z] at e
    cases e
  have obj : ∀ c, C c → ∃ o, s.heap.get? c = some o := fun c hc => by
    obtain ⟨v, e⟩ := hC c hc
    obtain ⟨_, _, o, ho, _⟩ := cellO_at hok e
    exact ⟨o, ho⟩
  have n : ∀ c, C c → H' c = none := fun c hc => by
    obtain ⟨o, ho⟩ := obj c hc
    exact ub.free c o ho (hide_in hc)
  have kB : ∀ c o, C c → s.heap.get? c = some o → B.get? c = some o := fun c o hc e => ub.keep c o e (hide_in hc) (nf c hc)
  have nCa : ¬ C a := fun z => by
    obtain ⟨o, ho⟩ := obj a z
    have := kB a o z ho
    rw [fl.2.1] at this
    cases this
  refine ⟨a, B, back C H H', cls, d, ea, fl, HOk.back hok hC kB n hok', ⟨fun b o e h0 hb => ub.keep b o e (hide_none h0) hb, fun b o e hb => ub.slot b o e hb, fun b o e h0 => ?_, fun b o e hb => ub.there b o e hb, fun b xs e => ?_, fun b o z e => ?_, fun b ps e => ?_⟩, by rw [back_out nCa]; exact na, os, ba, q n⟩
  · by_cases z : C b
    · rw [back_in z]; exact h0
    · rw [back_out z]; exact ub.free b o e (hide_none h0)
  · have z := hC.not e fun _ _ => cellO_tup
    rw [back_out z]
    exact ub.tups b xs (by rw [hide_out z]; exact e)
  · have z' := hC.not e fun _ _ => cellO_frz
    rw [back_out z']
    exact ub.frzs b o z (by rw [hide_out z']; exact e)
  · have z := hC.not e fun _ _ => cellO_tbl
    rw [back_out z]
    exact ub.tbls b ps (by rw [hide_out z]; exact e)
end
/-! ### closures -/
/-- at f: the function F, its captured names fr hold ws -/
structure CloAt (H : Hp) (f : Addr) (F : NF) (fr : List Str) (ws : List V) : Prop where
  fn : H f = some (FnO f F)
  code : H F.c = some (CodeO F.c F.qual)
  len : ws.length = fr.length
  inj : ∀ x y c, F.cl.lookup x = some c → F.cl.lookup y = some c → x = y
  all : ∀ y c, F.cl.lookup y = some c → ∃ v, H c = some (CellO c v)
  has : ∀ (i : Nat) (y : Str), fr[i]? = some y → ∃ c v, F.cl.lookup y = some c ∧ ws[i]? = some v ∧ H c = some (CellO c v)
def NF.isC (F : NF) (c : Addr) : Prop := ∃ y, F.cl.lookup y = some c
section
variable {H H' : Hp} {f : Addr} {F : NF} {fr : List Str} {ws : List V}
theorem CloAt.areC (h : CloAt H f F fr ws) : AreC (NF.isC F) H := fun c ⟨y, e⟩ => h.all y c e
theorem CloAt.ex (h : CloAt H f F fr ws) (e : Ex H H') : CloAt H' f F fr ws :=
  ⟨e _ _ h.fn, e _ _ h.code, h.len, h.inj, fun y c z => (h.all y c z).imp fun v q => e _ _ q, fun i y z => by
    obtain ⟨c, v, h1, h2, h3⟩ := h.has i y z
    exact ⟨c, v, h1, h2, e _ _ h3⟩⟩
/-- it stays where its own objects stay -/
theorem CloAt.stay (h : CloAt H f F fr ws) (e : ∀ a o, (a = f ∨ a = F.c ∨ NF.isC F a) → H a = some o → H' a = some o) : CloAt H' f F fr ws :=
  ⟨e _ _ (.inl rfl) h.fn, e _ _ (.inr (.inl rfl)) h.code, h.len, h.inj, fun y c z => (h.all y c z).imp fun v q => e _ _ (.inr (.inr ⟨y, z⟩)) q, fun i y z => by
    obtain ⟨c, v, h1, h2, h3⟩ := h.has i y z
    exact ⟨c, v, h1, h2, e _ _ (.inr (.inr ⟨y, h1⟩)) h3⟩⟩
end
/-- the promise of the function F at f, with the finer room; ws: what its captured names hold -/
structure NOkR (P : Program) (w : World) (K : Frag) (mg : Str → Option Value) (base : Heap) (CX : CXT) (d : Nat) (f : Addr) (F : NF) (ps fr : List Str) (sp : List V → Sp) : Prop where
  len : ∀ ws vs H Q E, sp ws vs H Q E → vs.length = ps.length
  go : ∀ (A : Around) (out : List Env) (s : Shared) (H : Hp) (us : List Value) (vs ws : List V) (Q : VK) (E : XK), Rm d A → Env0 P w K mg base A out s H → H f = some (FnO f F) → H F.c = some (CodeO F.c F.qual) →
    CellsAt F.cl fr (ws.map some) s.heap H → Vals vs us → sp ws vs H Q E → codeAny (model P w) A (.call (.ref f) ⟨us, []⟩) (CR CX out P w H s Q E) s
section
variable {CX : CXT} {P : Program} {w : World} {K : Frag} {mg : Str → Option Value} {base : Heap} {N ps fr : List Str} {F : NF} {f : Addr} {d : Nat} {sp : List V → Sp}
theorem nokR_of (S : NScope N ps fr F.scope) (hb : ∀ (doc pm ctv : Value) (us : List Value), us.length = ps.length → bindArgs (F.fd doc pm ctv) ⟨us, []⟩ = pure (ps.zip us)) (len : ∀ ws vs H Q E, sp ws vs H Q E → vs.length = ps.length)
    (hbody : ∀ (A : Around) (out : List Env) (s : Shared) (H : Hp) (vs ws : List V) (Q : VK) (E : XK), Rm d (A.deeper (envF F f s.heap.objs.size)) → H f = some (FnO f F) → H F.c = some (CodeO F.c F.qual) → ws.length = fr.length → sp ws vs H Q E →
      ∃ t, PSs (ncx CX P w K mg base N F f A out s H E) F.body t ∧ t { nx := fun _ H' => Q .non H', rt := Q } (startF N vs (ws.map some)) H) :
    NOkR P w K mg base CX (d + 1) f F ps fr sp := by
  refine ⟨len, fun A out s H us vs ws Q E rm e0 hf hc cs rv hsp => ?_⟩
  have lv := len _ _ _ _ _ hsp
  have nl : s.heap.NoLimit := e0.mod.nolimit.keeps fun b o z => (e0.bs b o z).1
  obtain ⟨od, sl, doc, pm, ctv, ho⟩ := fnO_at e0.hok hf
  refine codeAny_call_function rm.depth ho rfl S.co S.gen rfl (codeO_at e0.hok hc) ?_
  rw [hb doc pm ctv us (by rw [← rv.length]; exact lv)]
  refine wpAny_pure (wpAny_newFunctionEnv S.nocell (fun y hy => S.par y.1 (List.of_mem_zip (a := y.1) (b := y.2) hy).1) (fun h1 hns sb => ⟨nl.fresh _ sb, ?_⟩) S.kind)
  show codeAny _ _ (.func F.body (envF F f s.heap.objs.size)) _ _
  refine codeAny_func ?_
  have keep : ∀ b o, s.heap.get? b = some o → h1.get? b = some o := fun b o e => sb.extBut b o (Nat.ne_of_lt (Heap.lt_size e)) (Heap.get?_push_of_some _ e)
  obtain ⟨t, ht, hq⟩ := hbody A out s H vs ws Q E (rm.deeper _) hf hc (by rw [← List.length_map (f := some), cs.len]) hsp
  have I0 := inv_startN (CX := CX) (E := E) (f := f) (tk := s.toks + (ps.zip us).length) S rm.hd e0 lv rv cs hns keep
  refine wpAny_mono (ht.run [] _ (startF N vs (ws.map some)) H _ I0 hq) (fun fl s' hs => ?_) fun _ _ z => z
  match fl, hs with
  | .ret u, ⟨v, σ', H', J, r1, z⟩ => exact ⟨v, H', J.os, J.bare, J.base, J.hok, r1, z⟩
  | .next, ⟨σ', H', J, z⟩ => exact ⟨.non, H', J.os, J.bare, J.base, J.hok, rfl, z⟩
  | .brk, ⟨_, _, _, z⟩ => exact z.elim
  | .cont, ⟨_, _, _, z⟩ => exact z.elim
end
/-- f(..), f a local name that holds a closure -/
def tCallC (i : Nat) (mk : NF → Prop) (fr : List Str) (sp : List V → Sp) (E : L2.St → XK) (t : TA) : TE := fun σ H Q => ∃ f F ws, σ[i]? = some (some (.ref f)) ∧ mk F ∧ CloAt H f F fr ws ∧
  t σ H fun vs H1 => CloAt H1 f F fr ws ∧ sp ws vs (hide (NF.isC F) H1) (fun v H' => (∀ c, NF.isC F c → H' c = none) → Q v (back (NF.isC F) H1 H')) (fun cls d H' => (∀ c, NF.isC F c → H' c = none) → E σ cls d (back (NF.isC F) H1 H'))
theorem fnO_no {c f : Addr} {v : V} {F : NF} {P : Program} {w : World} {H : Hp} {h : Heap} (hok : HOk P w H h) (e : H f = some (FnO f F)) (e' : H f = some (CellO f v)) : False := by
  obtain ⟨od, sl, doc, pm, ctv, ho⟩ := fnO_at hok e
  obtain ⟨u, r, o, h2, hd⟩ := cellO_at hok e'
  rw [ho] at h2
  cases h2
  cases hd
theorem codeO_no {c : Addr} {v : V} {q : Str} {P : Program} {w : World} {H : Hp} {h : Heap} (hok : HOk P w H h) (e : H c = some (CodeO c q)) (e' : H c = some (CellO c v)) : False := by
  obtain ⟨c2, oc, vs, t, e2, hoc, hd, hv⟩ := codeO_at hok e
  cases e2
  obtain ⟨u, r, o, h2, hd2⟩ := cellO_at hok e'
  rw [hoc] at h2
  cases h2
  rw [hd] at hd2
  cases hd2
section
variable {X : Cx} {CX : CXT} {mk : NF → Prop} {ps fr : List Str} {i d e : Nat} {x : Str} {sp : List V → Sp} {E : L2.St → XK} {t : TA} {a : Expr} {es : List Expr} {p pos : Pos}
theorem pe_callC (Fn : ∀ f F, mk F → NOkR X.prog X.w X.K X.mg X.base CX d f F ps fr sp) (cb : CxBack X.prog X.w CX) (rm : Rm e X.A) (hk : d ≤ e) (hx : ∀ σ, PassesAt CX X σ (E σ)) (hN : X.N[i]? = some x) (hv : Vis X.env.scope x) (ha : PA X (a :: es) t)
    (hd : (x == ("__debug__" : Str)) = false := by decide) (hcd : (x == ("__classdict__" : Str)) = false := by decide)
    (he : starEach (a :: es) X.env = (false, eval a X.env) :: starEach es X.env := by rfl) (hpl : (backTo pos (starEach es X.env)).any (·.1) = false := by rfl) :
    PE X (.Call (.Name x p) (a :: es) [] pos) (tCallC i mk fr sp E t) := by
  refine ⟨fun pins s σ H Q I h => ?_⟩
  obtain ⟨f, F, ws, hs, hm, clo, ht⟩ := h
  refine wpAny_Call_Name_kw (thn ((pe_var (pos := p) hN hv hd hcd).run pins s σ H (fun v H1 => v = .ref f ∧ H1 = H) I ⟨.ref f, hs, rfl, rfl⟩) fun u s1 ⟨v, H1, I1, r1, ev, eH⟩ => ?_)
  subst ev
  subst eH
  obtain rfl : u = Value.ref f := r1
  refine PySem.W.callWith_F (first := []) (fnAt_of I1 clo.fn) (thn (ha.run pos pins s1 σ H1 _ I1 ht) fun us s2 z => ?_) he hpl
  obtain ⟨vs, H2, I2, rv, clo2, q⟩ := z
  refine ⟨fnAt_of I2 clo2.fn, ?_⟩
  show wpAny _ _ (call (.ref f) us) _ _ _
  have aC := clo2.areC
  have nC : ∀ b o, H2 b = some o → (∀ v, o ≠ CellO b v) → ¬ NF.isC F b := fun b o e n z => by
    obtain ⟨v, e'⟩ := aC b z
    rw [e] at e'
    exact n v (Option.some.inj e')
  have nf : ¬ NF.isC F f := fun z => by
    obtain ⟨v, e'⟩ := aC f z
    exact fnO_no (c := f) I2.hok clo2.fn e'
  have nc : ¬ NF.isC F F.c := fun z => by
    obtain ⟨v, e'⟩ := aC F.c z
    exact codeO_no I2.hok clo2.code e'
  have e0 := I2.env0
  have e1 : Env0 X.prog X.w X.K X.mg X.base X.A X.stack s2 (hide (NF.isC F) H2) := ⟨e0.frames, e0.mod, fun b o z => ⟨(e0.bs b o z).1, hide_none (e0.bs b o z).2⟩, e0.bsz, e0.funs, fun b hb => hide_none (e0.frf b hb), HOk.hide I2.hok aC, e0.bare⟩
  have cs : CellsAt F.cl fr (ws.map some) s2.heap (hide (NF.isC F) H2) := by
    refine ⟨by rw [List.length_map, clo2.len], fun y c z => ⟨hide_in ⟨y, z⟩, ?_⟩, clo2.inj, fun j y z => ?_⟩
    · obtain ⟨v, e'⟩ := clo2.all y c z
      obtain ⟨u, _, hc⟩ := cellO_at I2.hok e'
      exact ⟨some u, hc⟩
    · obtain ⟨c, v, h1, h2, h3⟩ := clo2.has j y z
      refine ⟨c, h1, fun v' e' => ?_⟩
      rw [List.getElem?_map, h2] at e'
      cases e'
      exact cellO_at I2.hok h3
  refine wpAny_call (codeAny_mono ((Fn f F hm).go X.A X.stack s2 _ us vs ws _ _ (rm.mono hk) e1 (by rw [hide_out nf]; exact clo2.fn) (by rw [hide_out nc]; exact clo2.code) cs rv q) fun res s' z => ?_)
  match res, z with
  | .error er, z => exact hx σ pins H2 s2 er s' I2 (cb _ _ H2 s2 (E σ) er s' aC I2.hok e0.frf z)
  | .ok (.ret u), z => exact I2.after (ce_back aC I2.hok e0.frf z)
  | .ok .next, z => exact z.elim
  | .ok .brk, z => exact z.elim
  | .ok .cont, z => exact z.elim
end
end LC

namespace LC
open PySem PySem.Spec PyProof.Rows L2 Evl LamX NdefX
/-! ### a def in a def: only the maker's table changes -/
def Kp (Pt : Addr) (H H' : Hp) : Prop := ∀ b o, b ≠ Pt → H b = some o → H' b = some o
/-- the tables tell of the code object c -/
def Told (T : List NTab) (H : Hp) (c : Addr) : Prop := ∃ p ∈ T, ∃ ps pos, H p.1 = some (.tbl ps) ∧ codeAmong pos ps.toList = some (.ref c)
/-- told of now: told of ahead, or new -/
def ToldTo (T : List NTab) (H H' : Hp) : Prop := ∀ c, Told T H' c → Told T H c ∨ H c = none
theorem among_new {pos : Pos} {c : Value} (l : List Value) (h : TriplesOk l) (hn : codeAmong pos l = none) : codeAmong pos (l ++ [rawInt pos.line, rawInt pos.col, c]) = some c := by
  fun_induction TriplesOk l with
  | case1 => simp [rawInt, codeAmong]
  | case2 a t b u x rest ih =>
    simp only [List.cons_append, codeAmong] at hn ⊢
    split at hn
    · cases hn
    · rename_i q
      rw [if_neg q]
      exact ih h hn
  | case3 l h1 h2 => exact h.elim
section
variable {X : Cx} {pins : List (Addr × Obj)} {σ : L2.St} {H : Hp} {s : Shared} {T : List NTab} {nm : Nat → Nat → Str} {c Pt : Addr} {name : Str} {pa : Arguments} {bd : List Stmt} {sc : Scope} {pos : Pos}
theorem fn_made {E Q : Value → Shared → Prop} (I : Inv X pins σ H s) (TB : TabB X.base X.mg c Pt) (hcode : X.env.code = .ref c) (hm : (Pt, nm) ∈ T) (hn : nm pos.line pos.col = X.env.qual ++ name) (hu : ∀ p ∈ T, p.1 = Pt → p.2 = nm) (hT : TabsN T H)
    (hfree : ∀ y ∈ sc.names, y.2 = .free → ∃ c, X.env.cells.lookup y.1 = some c)
    (k : ∀ f c' H1 s', Inv X pins σ H1 s' → Kp Pt H H1 → (∀ b, H1 b = none → H b = none) → TabsN T H1 → ToldTo T H H1 → Told T H1 c' → H f = none → H1 f = some (FnO f ⟨name, X.env.qual ++ name, pa, bd, sc, cloFrom X.env.cells sc.names [], c'⟩) → H1 c' = some (CodeO c' (X.env.qual ++ name)) → Q (.ref f) s') :
    wpAny (model X.prog X.w) X.A (makeFunction name (X.env.qual ++ name) pa (.stmts bd) sc X.env [] [] [] pos pos.line) Q E s := by
  obtain ⟨tb, htb, tri, told⟩ : TabN H Pt nm := hT _ hm
  have bA := TB.bm.keeps I.bk
  have obT : s.heap.get? Pt = some { cls := .none, data := .fields tb } := I.hok Pt _ htb
  cases am : codeAmong pos tb.toList with
  | some cv =>
    obtain ⟨c1, rfl, hc1⟩ := told pos cv am
    rw [hn] at hc1
    refine PySem.W.makeFunction_hit (mg := X.mg) (ps := tb) (closure_ok hfree) I.ok.glob (I.mod.glob.keeps I.bk) hcode (TB.code.keeps I.bk) obT tri am bA fun ctv doc h1 tk hx hsz => ?_
    have J := I.kept (t' := tk) hx
    have new : H h1.objs.size = none := J.hok.fresh (Nat.le_refl _)
    have ex : ∀ b o, H b = some o → upd H h1.objs.size (FnO h1.objs.size ⟨name, X.env.qual ++ name, pa, bd, sc, cloFrom X.env.cells sc.names [], c1⟩) b = some o := fun b o e => (upd_ne (ne_of_none e new)).trans e
    exact k h1.objs.size c1 _ _ (inv_fn (F := ⟨name, X.env.qual ++ name, pa, bd, sc, cloFrom X.env.cells sc.names [], c1⟩) (t' := tk) (doc := doc) (pm := (X.mg "__name__").getD .none) (ctv := ctv) J rfl) (fun b o _ e => ex b o e) (fun b e => upd_none e) (hT.ext ex) (fun c0 ⟨p, hp, ps, pos', h1', h2'⟩ => by
      obtain ⟨ps2, a1, _, _⟩ := hT p hp
      have e2 := ex _ _ a1
      rw [h1'] at e2
      cases e2
      exact .inl ⟨p, hp, ps, pos', a1, h2'⟩) ⟨_, hm, tb, pos, ex _ _ htb, am⟩ new upd_same (ex _ _ hc1)
  | none =>
    refine PySem.W.makeFunction_K (mg := X.mg) (ps := tb) (closure_ok hfree) I.ok.glob (I.mod.glob.keeps I.bk) hcode (TB.code.keeps I.bk) obT tri am TB.gP bA fun c1 ctv doc h1 tk hx hge hlt hrec hob => ?_
    obtain ⟨c2, oc, vs, t, ec, h2, h3, h4⟩ := hrec
    cases ec
    have nC : H c1 = none := I.hok.fresh hge
    have J := inv_table (t' := tk) (more := #[rawInt pos.line, rawInt pos.col, .ref c1]) (h' := h1) I htb (fun b o hb e => hx b o hb e) hob hge ⟨oc, vs, t, h2, h3, h4⟩
    generalize hG : upd (upd H Pt (.tbl (tb ++ #[rawInt pos.line, rawInt pos.col, .ref c1]))) c1 (CodeO c1 (X.env.qual ++ name)) = G at J
    have kG : Kp Pt H G := fun b o hb e => by rw [← hG, upd_ne (ne_of_none e nC), upd_ne hb]; exact e
    have cG : G c1 = some (CodeO c1 (X.env.qual ++ name)) := by rw [← hG]; exact upd_same
    have pG : G Pt = some (.tbl (tb ++ #[rawInt pos.line, rawInt pos.col, .ref c1])) := by rw [← hG, upd_ne (ne_of_none htb nC)]; exact upd_same
    have nG : ∀ b, G b = none → H b = none := fun b e => by rw [← hG] at e; exact upd_none (upd_none e)
    have code : ∀ c0 q, H c0 = some (CodeO c0 q) → G c0 = some (CodeO c0 q) := fun c0 q e => kG c0 _ (fun z => codeO_ne tb (by rw [z, htb] at e; exact (Option.some.inj e).symm)) e
    have tG : TabsN T G := fun p hp => by
      by_cases hb : p.1 = Pt
      · rw [hu p hp hb, hb]
        have eL : (tb ++ #[rawInt pos.line, rawInt pos.col, Value.ref c1]).toList = tb.toList ++ [rawInt pos.line, rawInt pos.col, .ref c1] := by simp
        refine ⟨_, pG, by rw [eL]; exact PySem.TriplesOk_snoc _ _ _ _ tri, fun p' cv hcv => ?_⟩
        rw [eL] at hcv
        rcases among_app2 _ tri hcv with z | ⟨z, z1, z2⟩
        · obtain ⟨c0, w1, w2⟩ := told p' cv z
          exact ⟨c0, w1, code _ _ w2⟩
        · exact ⟨c1, z, by rw [← z1, ← z2, hn]; exact cG⟩
      · obtain ⟨tb', a1, a2, a3⟩ := hT p hp
        refine ⟨tb', kG _ _ hb a1, a2, fun p' cv hcv => ?_⟩
        obtain ⟨c0, w1, w2⟩ := a3 p' cv hcv
        exact ⟨c0, w1, code _ _ w2⟩
    have told2 : ToldTo T H G := fun c0 ⟨p, hp, ps, pos', h1', h2'⟩ => by
      by_cases hb : p.1 = Pt
      · rw [hb, pG] at h1'
        cases h1'
        have eL : (tb ++ #[rawInt pos.line, rawInt pos.col, Value.ref c1]).toList = tb.toList ++ [rawInt pos.line, rawInt pos.col, .ref c1] := by simp
        rw [eL] at h2'
        rcases among_app2 _ tri h2' with z | ⟨z, _, _⟩
        · exact .inl ⟨_, hm, tb, pos', htb, z⟩
        · cases z
          exact .inr nC
      · obtain ⟨tb', a1, _, _⟩ := hT p hp
        have e2 := kG _ _ hb a1
        rw [h1'] at e2
        cases e2
        exact .inl ⟨p, hp, ps, pos', a1, h2'⟩
    have toldN : Told T G c1 := ⟨_, hm, _, pos, pG, by
      have eL : (tb ++ #[rawInt pos.line, rawInt pos.col, Value.ref c1]).toList = tb.toList ++ [rawInt pos.line, rawInt pos.col, .ref c1] := by simp
      rw [eL]
      exact among_new _ tri am⟩
    have new : G h1.objs.size = none := J.hok.fresh (Nat.le_refl _)
    have ex : ∀ b o, G b = some o → upd G h1.objs.size (FnO h1.objs.size ⟨name, X.env.qual ++ name, pa, bd, sc, cloFrom X.env.cells sc.names [], c1⟩) b = some o := fun b o e => (upd_ne (ne_of_none e new)).trans e
    exact k h1.objs.size c1 _ _ (inv_fn (F := ⟨name, X.env.qual ++ name, pa, bd, sc, cloFrom X.env.cells sc.names [], c1⟩) (t' := tk) (doc := doc) (pm := (X.mg "__name__").getD .none) (ctv := ctv) J rfl) (fun b o hb e => ex b o (kG b o hb e)) (fun b e => nG b (upd_none e)) (tG.ext ex) (fun c0 ⟨p, hp, ps, pos', h1', h2'⟩ => by
      obtain ⟨ps2, a1, _, _⟩ := tG p hp
      have e2 := ex _ _ a1
      rw [h1'] at e2
      cases e2
      exact told2 c0 ⟨p, hp, ps, pos', a1, h2'⟩) (by
      obtain ⟨p, hp, ps, pos', h1', h2'⟩ := toldN
      exact ⟨p, hp, ps, pos', ex _ _ h1', h2'⟩) (I.hok.fresh (Nat.le_trans hge (Nat.le_of_lt hlt))) upd_same (ex _ _ cG)
def tDefK (T : List NTab) (Pt : Addr) (i : Nat) (mk : Addr → NF) : TS := fun D σ H => TabsN T H ∧ ∀ (f c' : Addr) (H1 : Hp), Kp Pt H H1 → (∀ b, H1 b = none → H b = none) → TabsN T H1 → ToldTo T H H1 → Told T H1 c' → H f = none → H1 f = some (FnO f (mk c')) → H1 c' = some (CodeO c' (mk c').qual) → D.nx (σ.set i (some (.ref f))) H1
theorem ps_defK {st : Stmt} {i : Nat} (hst : st = .FunctionDef name (C8.fnArgs st) (C8.fnBody st) [] none [] (C8.fnScope st) none name pos) (TB : TabB X.base X.mg c Pt) (hcode : X.env.code = .ref c) (hm : (Pt, nm) ∈ T) (hn : nm pos.line pos.col = X.env.qual ++ name) (hu : ∀ p ∈ T, p.1 = Pt → p.2 = nm)
    (hfree : ∀ y ∈ (C8.fnScope st).names, y.2 = .free → X.env.scope.names.lookup y.1 = some .cell ∨ X.env.scope.names.lookup y.1 = some .free) (hd0 : (C8.fnArgs st).defaults = []) (hk0 : (C8.fnArgs st).kw_defaults = []) (ha : annTrees (C8.fnArgs st) none X.env = [])
    (hN : X.N.Nodup) (hi : X.N[i]? = some name) (hx : Loc X.env.scope name) (hf : X.fn name = true ∨ X.env.scope.names.lookup name = some .local) : PS X st (tDefK T Pt i (NF.of st name (X.env.qual ++ name) (cloFrom X.env.cells (C8.fnScope st).names []))) := by
  have key : PS X (.FunctionDef name (C8.fnArgs st) (C8.fnBody st) [] none [] (C8.fnScope st) none name pos) (tDefK T Pt i (NF.of st name (X.env.qual ++ name) (cloFrom X.env.cells (C8.fnScope st).names []))) := by
    refine ⟨fun pins s σ H D I h => ?_⟩
    obtain ⟨hT, h⟩ := h
    have q : qualnameIn X.env name name = X.env.qual ++ name := by
      have kk : X.env.kindOf name = some .local ∨ X.env.kindOf name = some .cell := hx
      unfold qualnameIn
      rcases kk with z | z <;> rw [z] <;> first | rfl | exact if_neg (by decide)
    refine PySem.W.nestDef_K hd0 hk0 ha ?_
    rw [q]
    exact fn_made I TB hcode hm hn hu hT (fun y hy e => (hfree y hy e).elim (fun z => I.ok.has _ (.inl z)) fun z => I.ok.has _ (.inr z)) fun f c' H1 s' J k1 k2 k3 k4 k5 k6 k7 k8 => store_ok J hN hi hx (v := .ref f) rfl (fun s'' J2 => ⟨_, H1, J2, h f c' H1 k1 k2 k3 k4 k5 k6 k7 k8⟩) hf
  rw [← hst] at key
  exact key
end
/-! ### a def that makes a closure of all its parameters and hands it back -/
def mkP (inner : Stmt) (name qual : Str) (F : NF) : Prop := ∃ cl c, F = NF.of inner name qual cl c
def spMk (T : List NTab) (Pt : Addr) (mk : NF → Prop) (fr : List Str) : Sp := fun vs H Q _ => vs.length = fr.length ∧ TabsN T H ∧ ∀ fa Fn H1, mk Fn → Kp Pt H H1 → (∀ b, H1 b = none → H b = none) → TabsN T H1 → ToldTo T H H1 → Told T H1 Fn.c → H fa = none → (∀ c, NF.isC Fn c → H c = none) → CloAt H1 fa Fn fr vs → Q (.ref fa) H1
section
variable {P : Program} {w : World} {K : Frag} {mg : Str → Option Value} {base : Heap} {CX : CXT} {k : Nat} {f : Addr} {fd : FuncData} {ps psi N Ni : List Str} {x q name : Str} {st inner : Stmt} {pos p1 p2 : Pos} {T : List NTab} {nm : Nat → Nat → Str} {c Pt : Addr} {j : Nat}
theorem mk_of (F : FnP K x q st f fd) (S : FnScope N ps (defScope st)) (hbody : defBody st = [inner, .Return (some (.Name name p1)) p2]) (hst : inner = .FunctionDef name (C8.fnArgs inner) (C8.fnBody inner) [] none [] (C8.fnScope inner) none name pos)
    (TB : TabB base mg c Pt) (hcode : fd.code = .ref c) (hm : (Pt, nm) ∈ T) (hn : nm pos.line pos.col = q ++ ".<locals>." ++ name) (hu : ∀ p ∈ T, p.1 = Pt → p.2 = nm) (Si : NScope Ni psi ps (C8.fnScope inner)) (nB : ndefB (defScope st) (C8.fnScope inner) ps = true)
    (hd0 : (C8.fnArgs inner).defaults = []) (hk0 : (C8.fnArgs inner).kw_defaults = []) (ha : ∀ env, annTrees (C8.fnArgs inner) none env = []) (hj : N[j]? = some name) (hl : (defScope st).names.lookup name = some .local) (hpj : ps.length ≤ j)
    (h1 : (name == ("__debug__" : Str)) = false) (h2 : (name == ("__classdict__" : Str)) = false) : FnOk P w K mg base CX (k + 1) f fd ps (spMk T Pt (mkP inner name (q ++ ".<locals>." ++ name)) ps) := by
  obtain ⟨oc, od, dV, kV, doc, pm, an, cdv, ct, osl, rfl, lk, hcd, _, _⟩ := F.ex
  refine ⟨fun vs H Q E h => h.1, fun A out s H ar us vs Q E rm e0 bi rv hsp => ?_⟩
  obtain ⟨lv, hT, hq⟩ := hsp
  have inK : K.In s.heap := e0.mod.kin.keeps fun b o z => (e0.bs b o z).1
  have nl : s.heap.NoLimit := e0.mod.nolimit.keeps fun b o z => (e0.bs b o z).1
  have kinds : ∀ y ∈ ps.zip us, (defScope st).names.lookup y.1 = some .local ∨ ((defScope st).names.lookup y.1 = some .cell ∧ ((cellsFrom (s.heap.objs.size + 1) (defScope st).names []).lookup y.1).isSome = true) := fun y hy =>
    (S.par y.1 (List.of_mem_zip (a := y.1) (b := y.2) hy).1).imp id fun z => ⟨z, PySem.W.cellsFrom_some _ _ _ (.inl z)⟩
  refine codeAny_call_function rm.depth (inK _ _ lk) rfl S.co S.gen rfl (PySem.W.codeRec_of inK hcd) (bi _ _ _ _ ?_)
  refine wpAny_newFunctionEnv_cells S.kind kinds fun env ee s1 ic => ?_
  subst ee
  refine ⟨nl.keeps ic.toInCall.keep, codeAny_func ?_⟩
  have I0 := inv_start (CX := CX) (E := E) S rm.hd e0 lv rv ic
  generalize hX : cxOf CX P w K mg base N q (defScope st) f cdv A out s H E = X at I0
  have eP : X.prog = P := by rw [← hX] <;> rfl
  have eW : X.w = w := by rw [← hX] <;> rfl
  have eN : X.N = N := by rw [← hX] <;> rfl
  have eS : X.env.scope = defScope st := by rw [← hX] <;> rfl
  have eQ : X.env.qual = q ++ ".<locals>." := by rw [← hX] <;> rfl
  have eC : X.env.code = .ref c := by rw [← hX]; exact hcode
  have eB : X.base = base := by rw [← hX] <;> rfl
  have eM : X.mg = mg := by rw [← hX] <;> rfl
  have hfree : ∀ y ∈ (C8.fnScope inner).names, y.2 = .free → X.env.scope.names.lookup y.1 = some .cell ∨ X.env.scope.names.lookup y.1 = some .free := by rw [eS]; exact ndef_free nB
  have nd := ps_defK (X := X) (st := inner) (T := T) (nm := nm) (c := c) (Pt := Pt) (name := name) (pos := pos) (i := j) hst (by rw [eB, eM]; exact TB) eC hm (by rw [eQ]; exact hn) hu hfree hd0 hk0 (ha _) (by rw [eN]; exact S.nd) (by rw [eN]; exact hj) (by rw [eS]; exact .inl hl) (by rw [eS]; exact .inr hl)
  rw [hbody]
  have run1 := nd.run [] s1 (start N vs) H { nx := fun σ' H' => ∃ fa c', σ' = (start N vs).set j (some (.ref fa)) ∧ Kp Pt H H' ∧ (∀ b, H' b = none → H b = none) ∧ TabsN T H' ∧ ToldTo T H H' ∧ Told T H' c' ∧ H fa = none ∧ H' fa = some (FnO fa (NF.of inner name (X.env.qual ++ name) (cloFrom X.env.cells (C8.fnScope inner).names []) c')) ∧ H' c' = some (CodeO c' (X.env.qual ++ name)), rt := fun _ _ => False } I0
    ⟨hT, fun fa c' H1 e1 e2 e3 e4 e5 e6 e7 e8 => ⟨fa, c', rfl, e1, e2, e3, e4, e5, e6, e7, e8⟩⟩
  have eA : X.A = A.deeper (envOfC q (defScope st) s.heap.objs.size f cdv) := by rw [← hX] <;> rfl
  have eE : X.env = envOfC q (defScope st) s.heap.objs.size f cdv := by rw [← hX] <;> rfl
  rw [eP, eW, eA, eE] at run1
  refine wpAny_execs_cons (wpAny_mono run1 (fun fl s2 hs => ?_) fun e s' z => by rw [← hX] at z; exact z)
  match fl, hs with
  | .ret u, ⟨_, _, _, _, _, z⟩ => exact z.elim
  | .brk, ⟨_, _, _, z⟩ => exact z.elim
  | .cont, ⟨_, _, _, z⟩ => exact z.elim
  | .next, ⟨σ2, H2, I2, fa, c', hσ, x1, x2, x3, xt1, xt2, x4, x5, x6⟩ =>
    subst hσ
    have lvN : vs.length ≤ N.length := by
      have := congrArg List.length S.pre
      rw [List.length_take] at this
      omega
    have hjN : j < N.length := (List.getElem?_eq_some_iff.mp hj).1
    have lenS : (start N vs).length = N.length := by
      unfold L2.start
      rw [List.length_append, List.length_map, List.length_replicate]
      omega
    have at_j : ((start N vs).set j (some (V.ref fa)))[j]? = some (some (.ref fa)) := by
      rw [List.getElem?_set_self (by omega)]
    have run2 := (pe_var (X := X) (pos := p1) (i := j) (x := name) (by rw [eN]; exact hj) (by rw [eS]; exact .inl hl) h1 h2).run [] s2 _ H2 (fun v H' => v = .ref fa ∧ H' = H2) I2 ⟨.ref fa, at_j, rfl, rfl⟩
    rw [eP, eW, eA, eE] at run2
    refine wpAny_execs_cons (wpAny_Return_some (wpAny_mono run2 (fun u s3 hz => ?_) fun e s' z => by rw [← hX] at z; exact z))
    obtain ⟨v, H3, I3, r3, e3, e4⟩ := hz
    subst e3
    subst e4
    show CE out P w H s Q u s3
    rw [← eE] at x5 x6
    generalize hcl : cloFrom X.env.cells (C8.fnScope inner).names [] = cl at x5
    have caps : Caps X cl ps (List.range ps.length) := by
      rw [← hcl]
      refine Caps.made I3.ok hfree (ndef_fr nB) ?_
      rw [eN]
      apply List.ext_getElem?
      intro i
      rw [List.getElem?_map, List.getElem?_map]
      by_cases hi : i < ps.length
      · rw [List.getElem?_range hi, List.getElem?_eq_getElem hi]
        show some (N[i]?) = some (some ps[i])
        congr 1
        have : (N.take ps.length)[i]? = ps[i]? := by rw [S.pre]
        rw [List.getElem?_take_of_lt hi, List.getElem?_eq_getElem hi] at this
        exact this
      · rw [List.getElem?_eq_none (by rw [List.length_range]; omega), List.getElem?_eq_none (by omega)] <;> rfl
    have cs := cells_of I3 caps
    have slot : ∀ (i : Nat) (v : V), vs[i]? = some v → ((List.range ps.length).map (slotAt ((start N vs).set j (some (V.ref fa)))))[i]? = some (some v) := fun i v hv => by
      have hi : i < vs.length := (List.getElem?_eq_some_iff.mp hv).1
      rw [List.getElem?_map, List.getElem?_range (by omega)]
      show some (NdefX.slotAt _ i) = _
      congr 1
      refine slotAt_of ?_
      rw [List.getElem?_set_ne (by omega)]
      unfold L2.start
      rw [List.getElem?_append_left (by rw [List.length_map]; exact hi), List.getElem?_map, hv]
      rfl
    have inPs : ∀ y c, cl.lookup y = some c → ∃ i : Nat, ps[i]? = some y := fun y c e => by
      have hy : y ∈ ps := by
        rw [← hcl] at e
        rcases cloFrom_mem (PySem.mem_of_lookup e) with z | ⟨z, _⟩
        · cases z
        · exact Si.free _ z rfl
      exact List.mem_iff_getElem?.mp hy
    have ndp : ps.Nodup := by rw [← S.pre]; exact S.nd.sublist (List.take_sublist _ _)
    let good : Addr → V → Prop := fun c v => ∃ (y : Str) (i : Nat), cl.lookup y = some c ∧ ps[i]? = some y ∧ vs[i]? = some v
    have good_ex : ∀ y c, cl.lookup y = some c → ∃ v, good c v := fun y c e => by
      obtain ⟨i, hi⟩ := inPs y c e
      have hi' : i < vs.length := by rw [lv]; exact (List.getElem?_eq_some_iff.mp hi).1
      exact ⟨vs[i], y, i, e, hi, List.getElem?_eq_getElem hi'⟩
    have good_un : ∀ c v v', good c v → good c v' → v = v' := by
      rintro c v v' ⟨y, i, a1, a2, a3⟩ ⟨y', i', b1, b2, b3⟩
      have ey := cs.inj y y' c a1 b1
      subst ey
      have ei : i = i' := by
        have hi := (List.getElem?_eq_some_iff.mp a2).1
        have hi' := (List.getElem?_eq_some_iff.mp b2).1
        rw [List.getElem?_eq_getElem hi] at a2
        rw [List.getElem?_eq_getElem hi'] at b2
        have z1 := ndp.idxOf_getElem i hi
        have z2 := ndp.idxOf_getElem i' hi'
        rw [Option.some.inj a2] at z1
        rw [Option.some.inj b2] at z2
        omega
      subst ei
      rw [a3] at b3
      exact Option.some.inj b3
    have good_c : ∀ c v, good c v → ∃ y, cl.lookup y = some c := fun c v ⟨y, i, a1, _, _⟩ => ⟨y, a1⟩
    let H4 : Hp := fun a => open Classical in if h : ∃ v, good a v then some (CellO a h.choose) else H3 a
    have H4_in : ∀ c v, good c v → H4 c = some (CellO c v) := fun c v g => by
      have h : ∃ v, good c v := ⟨v, g⟩
      have e : H4 c = some (CellO c h.choose) := dif_pos h
      rw [e, good_un c _ _ h.choose_spec g]
    have H4_out : ∀ a, (∀ y, cl.lookup y ≠ some a) → H4 a = H3 a := fun a n => dif_neg fun ⟨v, g⟩ => by
      obtain ⟨y, e⟩ := good_c a v g
      exact n y e
    have H3n : ∀ y c, cl.lookup y = some c → H3 c = none := fun y c e => (cs.all y c e).1
    have old : ∀ y c, cl.lookup y = some c → s.heap.objs.size ≤ c := fun y c e => by
      have := I3.ok.cab y c (by rw [← hX] <;> rfl) (caps.sub y c e)
      rw [← hX] at this
      exact this
    have out4 : ∀ a o, H3 a = some o → H4 a = some o := fun a o e => by
      rw [H4_out a fun y z => by rw [H3n y a z] at e; cases e]
      exact e
    have bs := I3.base
    have e0X : X.s_0 = s := by rw [← hX] <;> rfl
    have e0H : X.H_0 = H := by rw [← hX] <;> rfl
    have e0f : X.fs = frs out := by rw [← hX] <;> rfl
    have e0e : X.ex = [] := by rw [← hX] <;> rfl
    rw [e0X, e0H, e0f, e0e] at bs
    have nC : ∀ b o, s.heap.get? b = some o → ∀ y, cl.lookup y ≠ some b := fun b o e y z => by
      have h1 := old y b z
      have h2 := Heap.lt_size e
      exact absurd (Nat.lt_of_lt_of_le h2 h1) (Nat.lt_irrefl _)
    refine ⟨.ref fa, H4, I3.os.trans (by rw [e0X]), I3.bare, ⟨bs.keep, bs.slot, fun b o e h0 hx => ?_, bs.there, fun b xs e => out4 _ _ (bs.tups b xs e), fun b o z e => out4 _ _ (bs.frzs b o z e), fun b ps' e => ?_⟩, fun a o e => ?_, r3, ?_⟩
    · rw [H4_out b (nC b o e)]
      exact bs.free b o e h0 hx
    · obtain ⟨more, e'⟩ := bs.tbls b ps' e
      exact ⟨more, out4 _ _ e'⟩
    · have hok3 := I3.hok
      rw [eP, eW] at hok3
      by_cases h : ∃ v, good a v
      · obtain ⟨v, g⟩ := h
        rw [H4_in a v g] at e
        cases e
        obtain ⟨y, i, a1, a2, a3⟩ := g
        obtain ⟨c2, b1, b2⟩ := cs.has i y a2
        rw [a1] at b1
        cases b1
        obtain ⟨u', ru, hc'⟩ := b2 v (slot i v a3)
        exact cellO_ok ru hc'
      · have e' : H3 a = some o := (dif_neg h).symm.trans e
        exact (hok3 a o e').stay (fun _ _ _ z => z) (fun b hb => out4 _ _ hb) fun b xs hb => out4 _ _ hb
    · rw [eQ] at x5 x6
      refine hq fa (NF.of inner name (q ++ ".<locals>." ++ name) cl c') H4 ⟨cl, c', rfl⟩ (fun b o e n => out4 _ _ (x1 b o e n)) (fun b e => x2 b ?_) (x3.ext out4) (fun c0 ⟨p, hp, ps', pos', h1', h2'⟩ => by
        obtain ⟨ps2, a1, _, _⟩ := x3 p hp
        have e2 := out4 _ _ a1
        rw [h1'] at e2
        cases e2
        exact xt1 c0 ⟨p, hp, ps', pos', a1, h2'⟩) (by
        obtain ⟨p, hp, ps', pos', h1', h2'⟩ := xt2
        exact ⟨p, hp, ps', pos', out4 _ _ h1', h2'⟩) x4 (fun c' ⟨y, e⟩ => e0.hok.fresh (old y c' e)) ⟨out4 _ _ x5, out4 _ _ x6, lv, cs.inj, fun y c' e => ?_, fun i y e => ?_⟩
      · cases z : H3 b with
        | none => rfl
        | some o => rw [out4 _ _ z] at e; cases e
      · obtain ⟨v, g⟩ := good_ex y c' e
        exact ⟨v, H4_in c' v g⟩
      · obtain ⟨c2, b1, b2⟩ := cs.has i y e
        have hi' : i < vs.length := by rw [lv]; exact (List.getElem?_eq_some_iff.mp e).1
        have hv := List.getElem?_eq_getElem hi'
        exact ⟨c2, _, b1, hv, H4_in c2 _ ⟨y, i, b1, e, hv⟩⟩
end
end LC

namespace LC
open PySem PySem.Spec PyProof.Rows L2 Evl LamX NdefX
/-! ### the exception Failed -/
structure FailF (K : Frag) (mg : Str → Option Value) (C fI : Addr) : Prop where
  o : OexC K C
  x : XfC K C
  g : mg "Failed" = some (.ref C)
  i : PySem.W.findIn K (.ref C) "__init__" = some (some (.ref fI))
  t : PySem.W.typeIn K (.ref fI) = some (.type "function")
  n : PySem.W.findIn K (.ref C) "why" = some none
  e : PySem.W.exmOne K (.ref C) (.ref C) = some true
def oexB (K : Frag) (C : Addr) : Bool := match K.lookup C with
  | some ⟨.type ty, _, .cls cd, sl⟩ => (match cd.mro, sl.toList with
    | .ref C' :: bm, [_, _, _, _, some (.builtin n), _] => decide (ty = "type") && (decide (C' = C) && (decide (n = "ValueError.__new__") && (!cd.hasDel && (cd.hasDict && PySem.HandSPX.refsVE bm))))
    | _, _ => false)
  | _ => false
theorem oexB_ok {K : Frag} {C : Addr} (h : oexB K C = true) : ∃ nm q N bs bm sn sub ab col dd k0 k1 k2 k3 k5, K.lookup C = some (excClassObj nm q C N bs bm true sn sub ab col dd k0 k1 k2 k3 k5 "ValueError.__new__") ∧ PySem.HandSPX.refsVE bm = true := by
  unfold oexB at h
  split at h
  · rename_i ty dd cd sl ho
    split at h
    · rename_i C' bm k0 k1 k2 k3 n k5 hm hs
      simp only [Bool.and_eq_true, decide_eq_true_eq, Bool.not_eq_true'] at h
      obtain ⟨h1, h2, h3, h4, h5, h6⟩ := h
      subst h1 h2 h3
      obtain ⟨nm, bs, mro, ns, q, hd, sn, sub, ab, col, del⟩ := cd
      dsimp only at hm h4 h5
      subst hm h4 h5
      have es : sl = #[k0, k1, k2, k3, some (.builtin "ValueError.__new__"), k5] := by
        rw [← Array.toArray_toList (xs := sl), hs]
      subst es
      exact ⟨nm, q, ns, bs, bm, sn, sub, ab, col, dd, k0, k1, k2, k3, k5, ho, h6⟩
    · cases h
  · cases h
def failB (K : Frag) : Bool := oexB K (He.ga K "Failed") && (He.eqO (PySem.W.findIn K (.ref (He.ga K "Failed")) "__setattr__") (some (some (.builtin "object.__setattr__"))) && (decide (PySem.W.typeIn K (.ref (He.ga K "Failed")) = some (.type "type")) && (PySem.W.keepIn K (.ref (He.ga K "Failed")) && (xfB K (He.ga K "Failed") &&
  (He.eqO (PySem.W.findIn K (.ref (He.ga K "Failed")) "__init__") (some (some (.ref (He.fAd K ("Failed", some "__init__"))))) && (decide (PySem.W.typeIn K (.ref (He.fAd K ("Failed", some "__init__"))) = some (.type "function")) && (He.eqO (PySem.W.findIn K (.ref (He.ga K "Failed")) "why") (some none) && decide (PySem.W.exmOne K (.ref (He.ga K "Failed")) (.ref (He.ga K "Failed")) = some true))))))))
theorem failB_ok {K : Frag} {mg : Str → Option Value} (g : mg "Failed" = some (.ref (He.ga K "Failed"))) (h : failB K = true) : FailF K mg (He.ga K "Failed") (He.fAd K ("Failed", some "__init__")) := by
  unfold failB at h
  simp only [Bool.and_eq_true] at h
  obtain ⟨h1, h2, h3, h4, h5, h6, h7, h8, h9⟩ := h
  have x := xfB_ok h5
  exact ⟨⟨oexB_ok h1, He.eqO_ok h2, x.exC, of_decide_eq_true h3, h4⟩, x, g, He.eqO_ok h6, of_decide_eq_true h7, He.eqO_ok h8, of_decide_eq_true h9⟩
/-- its __init__ -/
def spFailI (K : Frag) (C : Addr) : Sp := fun vs H Q _ => ∃ a w x, vs = [.ref a, w, x] ∧ H a = some (exo a C none) ∧ ∀ d t, H d = none → H t = none → d ≠ t → Q .non (upd (upd (upd H t (.tup [w, x])) d (exd d [("why", .ref t)])) a (exo a C (some d)))
/-- what is wished of a Failed: its words are y -/
abbrev Why := Str × Option Str
def FailE (K : Frag) (C : Addr) (B H : Hp) (y : Why) (E : XK) : Prop := ∀ d tv H' B', H d = none → Gr B H H' B' → B' d = none → H' d = some (.xd [("why", tv)]) → Dt K B' tv (encWhy (some y)) → E (.ref C) (some d) H'
section
variable {K : Frag} {C : Addr} {σ : L2.St} {B H : Hp} {t1 t2 : TE} {y : Why} {E : XK}
theorem x_fail (x : Ex B H) (h1 : Ev t1 σ H (.str y.1)) (h2 : EvB K t2 σ B H (encN y.2)) (k : FailE K C B H y E) : tMkO C (spFailI K C) [] (tCons t1 (tCons t2 tNil)) σ H E := by
  refine h1 H (Ex.refl H) _ fun H1 e1 => h2 H1 e1 _ fun v H2 B2 g2 d2 => ⟨by show 2 ≤ 1000; decide, fun a ha => ⟨a, .str y.1, v, rfl, upd_same, fun d t hd ht hdt => ⟨rfl, d, [("why", .ref t)], upd_same, ?_, ?_, ?_⟩⟩⟩
  · have hda : d ≠ a := fun z => by rw [z, upd_same] at hd; cases hd
    rw [upd_ne hda, upd_same]
  · have hda : d ≠ a := fun z => by rw [z, upd_same] at hd; cases hd
    rw [upd_ne hda] at hd
    exact hd
  · have hda : d ≠ a := fun z => by rw [z, upd_same] at hd; cases hd
    have hta : t ≠ a := fun z => by rw [z, upd_same] at ht; cases ht
    rw [upd_ne hda] at hd
    rw [upd_ne hta] at ht
    have eH : upd (del (upd (upd (upd (upd H2 a (exo a C none)) t (.tup [.str y.1, v])) d (exd d [("why", .ref t)])) a (exo a C (some d))) a) d (.xd [("why", .ref t)]) = upd (upd H2 t (.tup [.str y.1, v])) d (.xd [("why", .ref t)]) := by
      funext b
      by_cases hb : b = d
      · rw [hb, upd_same, upd_same]
      · rw [upd_ne hb, upd_ne hb]
        by_cases hba : b = a
        · rw [hba, del_same, upd_ne (Ne.symm hta)]
          exact ha.symm
        · rw [del_ne hba, upd_ne hba, upd_ne hb]
          by_cases hbt : b = t
          · rw [hbt, upd_same, upd_same]
          · rw [upd_ne hbt, upd_ne hbt, upd_ne hba]
    rw [eH]
    have g3 : Gr B H (upd H2 t (.tup [.str y.1, v])) (upd B2 t (.tup [.str y.1, v])) := (g2.after e1).new _ ht
    have b2d : B2 d = none := fresh_back g2.d2 hd
    have b2t : B2 t = none := fresh_back g2.d2 ht
    have h3d : upd H2 t (.tup [.str y.1, v]) d = none := by rw [upd_ne hdt]; exact hd
    refine k d (.ref t) _ (upd B2 t (.tup [.str y.1, v])) (fresh_back (e1.trans g2.ex) hd) (g3.more (Ex.new h3d)) (by rw [upd_ne hdt]; exact b2d) upd_same ?_
    obtain ⟨y1, y2⟩ := y
    exact .tup (st_of upd_same) (.cons (.str _) (.cons (dp_ex (Ex.new b2t) _ _ d2) .nil))
end
/-! ### what sums come to -/
def reck (w : Str) (i j : Int) : Except Why Int :=
  if w = "add" then .ok ((i + j) % 10000) else if w = "less" then .ok ((i - j) % 10000) else if w = "times" then .ok (i * j % 10000) else if w = "same" then .ok (if i = j then 1 else 0) else if j = 0 then .error ("over", none) else .ok (i / j)
def InR (i : Int) : Prop := 0 ≤ i ∧ i ≤ 9999
theorem reck_in {w : Str} {i j r : Int} (hi : InR i) (hj : InR j) (h : reck w i j = .ok r) : InR r := by
  unfold reck at h
  unfold InR at *
  split at h
  · cases h; omega
  split at h
  · cases h; omega
  split at h
  · cases h
    have := Int.emod_nonneg (i * j) (show (10000 : Int) ≠ 0 by decide)
    have := Int.emod_lt_of_pos (i * j) (show (0 : Int) < 10000 by decide)
    omega
  split at h
  · cases h
    split <;> omega
  split at h
  · cases h
  · rename_i hj0
    cases h
    have h1 : 0 ≤ i / j := Int.ediv_nonneg hi.1 hj.1
    have h2 : i / j ≤ i := Int.ediv_le_self _ hi.1
    omega
section
variable {S : Type} (step : S → Str → Option Int × S) (mine : List (Str × Int))
def worthM : Sm → S → Except Why Int × S
  | .num i, s => (.ok i, s)
  | .nm x, s => match mine.lookup x with
    | some v => (.ok v, s)
    | none => match step s x with
      | (some v, s1) => (.ok v, s1)
      | (none, s1) => (.error ("lacks", some x), s1)
  | .op w a b, s => match worthM a s with
    | (.error y, s1) => (.error y, s1)
    | (.ok i, s1) => match worthM b s1 with
      | (.error y, s2) => (.error y, s2)
      | (.ok j, s2) => (reck w i j, s2)
  | .ite a b c, s => match worthM a s with
    | (.error y, s1) => (.error y, s1)
    | (.ok i, s1) => if i = 0 then worthM c s1 else worthM b s1
theorem worthM_in (hs : ∀ s x i s1, step s x = (some i, s1) → InR i) (hm : ∀ x i, mine.lookup x = some i → InR i) : ∀ (m : Sm) (s : S) (i : Int) (s1 : S), m.good = true → worthM step mine m s = (.ok i, s1) → InR i
  | .num k, s, i, s1, g, h => by
    unfold worthM at h
    cases h
    unfold Sm.good at g
    rw [Bool.and_eq_true] at g
    exact ⟨of_decide_eq_true g.1, of_decide_eq_true g.2⟩
  | .nm x, s, i, s1, g, h => by
    unfold worthM at h
    split at h
    · rename_i v e
      cases h
      exact hm x _ e
    · split at h
      · rename_i v s2 e
        cases h
        exact hs _ _ _ _ e
      · cases h
  | .op w a b, s, i, s1, g, h => by
    have g2 : (decide (w ∈ wordsS) && (a.good && b.good)) = true := by unfold Sm.good at g; exact g
    simp only [Bool.and_eq_true] at g2
    unfold worthM at h
    split at h
    · cases h
    · rename_i i1 s2 e1
      split at h
      · cases h
      · rename_i i2 s3 e2
        injection h with h1 h2
        exact reck_in (worthM_in hs hm a s i1 s2 g2.2.1 e1) (worthM_in hs hm b s2 i2 s3 g2.2.2 e2) h1
  | .ite a b c, s, i, s1, g, h => by
    have g2 : (a.good && (b.good && c.good)) = true := by unfold Sm.good at g; exact g
    simp only [Bool.and_eq_true] at g2
    unfold worthM at h
    split at h
    · cases h
    · rename_i i1 s2 e1
      split at h
      · exact worthM_in hs hm c s2 i s1 g2.2.2 h
      · exact worthM_in hs hm b s2 i s1 g2.2.1 h
end
/-- a source done: what it shows, sets, why it failed -/
structure DoneS where
  shown : List Int
  mine : List (Str × Int)
  why : Option Why
def putP (m : List (Str × Int)) (x : Str) (i : Int) : List (Str × Int) := if (m.any fun q => decide (q.1 = x)) = true then m.map (fun q => if q.1 = x then (q.1, i) else q) else m ++ [(x, i)]
section
variable {S : Type} (step : S → Str → Option Int × S)
def doneM : Src → List Int → List (Str × Int) → S → DoneS × S
  | [], f, m, s => (⟨f, m, none⟩, s)
  | .set x q :: r, f, m, s => match worthM step m q s with
    | (.error y, s1) => (⟨f, [], some y⟩, s1)
    | (.ok i, s1) => doneM r f (putP m x i) s1
  | .shw q :: r, f, m, s => match worthM step m q s with
    | (.error y, s1) => (⟨f, [], some y⟩, s1)
    | (.ok i, s1) => doneM r (f ++ [i]) m s1
end
def encM (m : List (Str × Int)) : List (Key × V) := m.map fun q => ((Sum.inr q.1 : Key), V.int q.2)
theorem encM_put (m : List (Str × Int)) (x : Str) (i : Int) : putK (encM m) (.inr x) (.int i) = encM (putP m x i) := by
  have e : ((encM m).any fun kv => decide (kv.1 = Sum.inr x)) = m.any fun q => decide (q.1 = x) := by
    unfold encM
    rw [List.any_map]
    congr 1
    funext q
    simp [Function.comp]
  unfold putK putP
  rw [e]
  split
  · unfold encM
    rw [List.map_map, List.map_map]
    refine List.map_congr_left fun q _ => ?_
    by_cases h : q.1 = x
    · simp [Function.comp, h]
    · simp [Function.comp, h]
  · unfold encM
    rw [List.map_append] <;> rfl
theorem encM_val : ∀ (m : List (Str × Int)) (x : Str), valV (encM m) (.inr x) = (m.lookup x).map V.int
  | [], x => rfl
  | (y, j) :: r, x => by
    have ih := encM_val r x
    by_cases h : y = x
    · subst h
      show valV ((Sum.inr y, V.int j) :: encM r) (.inr y) = _
      rw [valV_pos rfl]
      simp [List.lookup]
    · show valV ((Sum.inr y, V.int j) :: encM r) (.inr x) = _
      rw [valV_neg (fun z => h (Sum.inr.inj z)), ih]
      have : (x == y) = false := by simpa using fun z => h z.symm
      simp [List.lookup, this]
theorem putP_look (m : List (Str × Int)) (x y : Str) (i : Int) : (putP m x i).lookup y = if y = x then some i else m.lookup y := by
  have h := encM_val (putP m x i) y
  rw [← encM_put, valV_put] at h
  by_cases e : y = x
  · subst e
    rw [if_pos rfl] at h ⊢
    cases q : (putP m y i).lookup y with
    | none => rw [q] at h; cases h
    | some v => rw [q] at h; cases h; rfl
  · rw [if_neg e]
    rw [if_neg (fun z => e (Sum.inr.inj z)), encM_val] at h
    cases q : (putP m x i).lookup y with
    | none =>
      cases q2 : m.lookup y with
      | none => rfl
      | some v => rw [q, q2] at h; cases h
    | some v =>
      cases q2 : m.lookup y with
      | none => rw [q, q2] at h; cases h
      | some v2 => rw [q, q2] at h; cases h; rfl
end LC

namespace LC
open PySem PySem.Spec PyProof.Rows L2 Evl LamX NdefX
/-! ### what is asked: by a closure -/
def AskCall (mk : NF → Prop) (fr : List Str) (sp : List V → Sp) (fa : Addr) (x : Str) (H : Hp) (Q : VK) (E : XK) : Prop := ∃ F ws, mk F ∧ CloAt H fa F fr ws ∧
  sp ws [.str x] (hide (NF.isC F) H) (fun v H' => (∀ c, NF.isC F c → H' c = none) → Q v (back (NF.isC F) H H')) (fun cls d H' => (∀ c, NF.isC F c → H' c = none) → E cls d (back (NF.isC F) H H'))
theorem t_ask {mk : NF → Prop} {fr : List Str} {sp : List V → Sp} {fa : Addr} {x : Str} {H : Hp} {Q : VK} {E : L2.St → XK} {σ : L2.St} {i j : Nat} (hi : σ[i]? = some (some (.ref fa))) (hj : σ[j]? = some (some (.str x))) (h : AskCall mk fr sp fa x H Q (E σ)) : tCallC i mk fr sp E (tCons (tVar j) tNil) σ H Q := by
  obtain ⟨F, ws, hm, c, hs⟩ := h
  exact ⟨fa, F, ws, hi, hm, c, .str x, hj, c, hs⟩
abbrev JT (S : Type) := S → (Addr → Prop) → Hp → Hp → Prop
/-- the wish of a Failed behind what may have changed -/
def FailB (K : Frag) (C : Addr) {S : Type} (J : JT S) (s1 : S) (M : Addr → Prop) (B H : Hp) (y : Why) (E : XK) : Prop := ∀ d tv H' B' M', Fr M M' B H H' B' → J s1 M' B' H' → H d = none → ¬ M' d → B' d = none → H' d = some (.xd [("why", tv)]) → Dt K B' tv (encWhy (some y)) → E (.ref C) (some d) H'
structure Asks (K : Frag) (C : Addr) (mk : NF → Prop) (fr : List Str) (sp : List V → Sp) (fa : Addr) (S : Type) (J : JT S) (step : S → Str → Option Int × S) (Nm : List Str) : Prop where
  x : ∀ {s M B H}, J s M B H → Ex B H
  m : ∀ {s M B H}, J s M B H → ∀ a, M a → B a = none ∧ H a ≠ none
  gr : ∀ {s M B H B' H'}, J s M B H → Gr B H H' B' → J s M B' H'
  out : ∀ {s M B H} {p : Addr}, J s M B H → B p = none → ¬ M p → ((∃ k, H p = some (.dK k)) ∨ ∃ l, H p = some (.lst l)) → ∀ o, J s M B (upd H p o)
  add : ∀ {s M B H} {p : Addr} {o : HO}, J s M B H → B p = none → ¬ M p → H p = some o → ((∃ k, o = .dK k) ∨ (∃ l, o = .lst l) ∨ ∃ l, o = .tup l) → J s M (upd B p o) H
  call : ∀ {s M B H x Q E}, J s M B H → x ∈ Nm → (∀ i s1, step s x = (some i, s1) → ∀ H' B' M', Fr M M' B H H' B' → J s1 M' B' H' → Q (.int i) H') → (∀ s1, step s x = (none, s1) → FailB K C J s1 M B H ("lacks", some x) E) → AskCall mk fr sp fa x H Q E
  rng : ∀ {s x i s1}, step s x = (some i, s1) → InR i
theorem Asks.ex {K : Frag} {C : Addr} {mk : NF → Prop} {fr : List Str} {sp : List V → Sp} {fa : Addr} {S : Type} {J : JT S} {step : S → Str → Option Int × S} {Nm : List Str} (A : Asks K C mk fr sp fa S J step Nm) {s : S} {M : Addr → Prop} {B H H' : Hp} (j : J s M B H) (e : Ex H H') : J s M B H' := A.gr j (Gr.base (A.x j) e)
/-! ### promises -/
def spReck (K : Frag) (C : Addr) : Sp := fun vs H Q E => ∃ w i j B, vs = [.str w, .int i, .int j] ∧ w ∈ wordsS ∧ InR i ∧ InR j ∧ Ex B H ∧ (∀ r, reck w i j = .ok r → ∀ H', Ex H H' → Q (.int r) H') ∧ (∀ y, reck w i j = .error y → FailE K C B H y E)
/-- a dict of a def's own: apart from what may change -/
structure Own (M : Addr → Prop) (B H : Hp) (p : Addr) (o : HO) : Prop where
  h : H p = some o
  b : B p = none
  m : ¬ M p
def spWorth (K : Frag) (C : Addr) (mk : NF → Prop) (fr : List Str) (sp : List V → Sp) (n : Nat) : Sp := fun vs H Q E => ∃ (S : Type) (J : JT S) (step : S → Str → Option Int × S) (fa pm : Addr) (v : V) (m : Sm) (mine : List (Str × Int)) (M : Addr → Prop) (B : Hp) (s0 : S) (Nm : List Str),
  vs = [v, .ref pm, .ref fa] ∧ Asks K C mk fr sp fa S J step Nm ∧ (∀ x ∈ m.names, x ∈ Nm) ∧ J s0 M B H ∧ Own M B H pm (.dK (encM mine)) ∧ (∀ x i, mine.lookup x = some i → InR i) ∧ Dt K B v m.enc ∧ m.good = true ∧ m.depth < n ∧
  (∀ i s1, worthM step mine m s0 = (.ok i, s1) → ∀ H' B' M', Fr M M' B H H' B' → J s1 M' B' H' → Q (.int i) H') ∧ (∀ y s1, worthM step mine m s0 = (.error y, s1) → FailB K C J s1 M B H y E)
section
variable {K : Frag} {C : Addr} {mk : NF → Prop} {fr : List Str} {sp : List V → Sp} {S : Type} {J : JT S} {step : S → Str → Option Int × S} {Nm : List Str} {fa pm p : Addr} {s0 s1 : S} {M M' : Addr → Prop} {B B' H H' : Hp} {E : XK} {y : Why} {o : HO}
theorem Own.thru (w : Own M B H p o) (f : Fr M M' B H H' B') : Own M' B' H' p o := by
  have hn : H p ≠ none := by rw [w.h]; exact fun z => nomatch z
  refine ⟨f.fr p o w.h w.m, f.nw p w.b hn, fun z => ?_⟩
  rcases f.mm p z with z | z
  · exact w.m z
  · exact hn z
theorem Own.ex (w : Own M B H p o) (e : Ex H H') : Own M B H' p o := ⟨e _ _ w.h, w.b, w.m⟩
theorem Own.gr (w : Own M B H p o) (g : Gr B H H' B') : Own M B' H' p o := ⟨g.ex _ _ w.h, g.fr p w.b (by rw [w.h]; exact fun z => nomatch z), w.m⟩
theorem FailB.after {M0 : Addr → Prop} {B0 H0 : Hp} (h : FailB K C J s1 M0 B0 H0 y E) (f : Fr M0 M B0 H0 H B) : FailB K C J s1 M B H y E := fun d tv H' B' M' f' j h0 m b hd dt => h d tv H' B' M' (f.trans f') j (by
  cases q : H0 d with
  | none => rfl
  | some o => exact absurd h0 (f.stay d (by rw [q]; exact fun z => nomatch z))) m b hd dt
theorem FailB.of (A : Asks K C mk fr sp fa S J step Nm) (j : J s1 M B H) (h : FailB K C J s1 M B H y E) : FailE K C B H y E := fun d tv H' B' h0 g b hd dt => h d tv H' B' M (Fr.of g) (A.gr j g) h0 (fun z => (A.m j d z).2 h0) b hd dt
variable {n : Nat} {te : TE} {σ : L2.St} {m : Sm} {mine : List (Str × Int)} {Q : VK} {ES : L2.St → XK}
theorem t_worth {im ia : Nat} (A : Asks K C mk fr sp fa S J step Nm) (h1 : σ[im]? = some (some (.ref pm))) (h2 : σ[ia]? = some (some (.ref fa))) (h : EvB K te σ B H m.enc) (j : J s0 M B H) (w : Own M B H pm (.dK (encM mine))) (hm : ∀ x i, mine.lookup x = some i → InR i) (hN : ∀ x ∈ m.names, x ∈ Nm) (hg : m.good = true) (hd : m.depth < n)
    (k1 : ∀ i s1, worthM step mine m s0 = (.ok i, s1) → ∀ H' B' M', Fr M M' B H H' B' → J s1 M' B' H' → Q (.int i) H') (k2 : ∀ y s1, worthM step mine m s0 = (.error y, s1) → FailB K C J s1 M B H y (ES σ)) : tCallS (spWorth K C mk fr sp n) ES (tCons te (tCons (tVar im) (tCons (tVar ia) tNil))) σ H Q := by
  refine h H (Ex.refl H) _ fun v H1 B1 g1 d1 => ⟨.ref pm, h1, .ref fa, h2, ?_⟩
  exact ⟨S, J, step, fa, pm, v, m, mine, M, B1, s0, Nm, rfl, A, hN, A.gr j g1, w.gr g1, hm, d1, hg, hd, fun i s1 e H' B' M' f jj => k1 i s1 e H' B' M' ((Fr.of g1).trans f) jj, fun y s1 e => (k2 y s1 e).after (Fr.of g1)⟩
theorem s_worthA {im ia : Nat} {D : Ends} {i : Nat} (A : Asks K C mk fr sp fa S J step Nm) (h1 : σ[im]? = some (some (.ref pm))) (h2 : σ[ia]? = some (some (.ref fa))) (h : EvB K te σ B H m.enc) (j : J s0 M B H) (w : Own M B H pm (.dK (encM mine))) (hm : ∀ x i, mine.lookup x = some i → InR i) (hN : ∀ x ∈ m.names, x ∈ Nm) (hg : m.good = true) (hd : m.depth < n)
    (k1 : ∀ r s1, worthM step mine m s0 = (.ok r, s1) → ∀ H' B' M', Fr M M' B H H' B' → J s1 M' B' H' → D.nx (σ.set i (some (.int r))) H') (k2 : ∀ y s1, worthM step mine m s0 = (.error y, s1) → FailB K C J s1 M B H y (ES σ)) : tAsg (tCallS (spWorth K C mk fr sp n) ES (tCons te (tCons (tVar im) (tCons (tVar ia) tNil)))) (gName i) D σ H :=
  t_worth (Q := fun v H' => D.nx (σ.set i (some v)) H') A h1 h2 h j w hm hN hg hd k1 k2
theorem s_worthR {im ia : Nat} {D : Ends} (A : Asks K C mk fr sp fa S J step Nm) (h1 : σ[im]? = some (some (.ref pm))) (h2 : σ[ia]? = some (some (.ref fa))) (h : EvB K te σ B H m.enc) (j : J s0 M B H) (w : Own M B H pm (.dK (encM mine))) (hm : ∀ x i, mine.lookup x = some i → InR i) (hN : ∀ x ∈ m.names, x ∈ Nm) (hg : m.good = true) (hd : m.depth < n)
    (k1 : ∀ r s1, worthM step mine m s0 = (.ok r, s1) → ∀ H' B' M', Fr M M' B H H' B' → J s1 M' B' H' → D.rt (.int r) H') (k2 : ∀ y s1, worthM step mine m s0 = (.error y, s1) → FailB K C J s1 M B H y (ES σ)) : tRet (tCallS (spWorth K C mk fr sp n) ES (tCons te (tCons (tVar im) (tCons (tVar ia) tNil)))) D σ H :=
  t_worth (Q := D.rt) A h1 h2 h j w hm hN hg hd k1 k2
theorem t_reck {t1 t2 t3 : TE} {w : Str} {i j : Int} (x : Ex B H) (h1 : Ev t1 σ H (.str w)) (h2 : Ev t2 σ H (.int i)) (h3 : Ev t3 σ H (.int j)) (hw : w ∈ wordsS) (hi : InR i) (hj : InR j) (k1 : ∀ r, reck w i j = .ok r → ∀ H', Ex H H' → Q (.int r) H') (k2 : ∀ y, reck w i j = .error y → FailE K C B H y E) :
    tCall (spReck K C) [] E (tCons t1 (tCons t2 (tCons t3 tNil))) σ H Q := h1 H (Ex.refl H) _ fun H1 e1 => h2 H1 e1 _ fun H2 e2 => h3 H2 (e1.trans e2) _ fun H3 e3 => by
  have e := (e1.trans e2).trans e3
  exact ⟨w, i, j, B, rfl, hw, hi, hj, x.trans e, fun r hr H' e' => k1 r hr H' (e.trans e'), fun y hy d tv H' B' h0 g => k2 y hy d tv H' B' (fresh_back e h0) (g.after e)⟩
end
end LC
namespace LC
open PySem PySem.Spec PyProof.Rows L2 Evl LamX NdefX
def HasFail (P : Program) (w : World) (K : Frag) (mg : Str → Option Value) (base : Heap) (C fI : Addr) : Prop := ∃ fd, FnOk P w K mg base CX0 1 fI fd ["self", "word", "name"] (spFailI K C) ∧ Binds K fd ["self", "word", "name"] []
theorem pmk_fail {X : Cx} {K : Frag} {C fI : Addr} {j : Nat} {e : Expr} {es : List Expr} {ta : TA} {p pos : Pos} (hK : X.K = K) (T : FailF K X.mg C fI) (F : HasFail X.prog X.w K X.mg X.base C fI) (hr : Room j X.A) (hj : 2 ≤ j) (hg : Gl X "Failed") (ha : PA X (e :: es) ta)
    (he : starEach (e :: es) X.env = (false, eval e X.env) :: starEach es X.env := by rfl) (hpl : (backTo pos (starEach es X.env)).any (·.1) = false := by rfl) : PMk X (.Call (.Name "Failed" p) (e :: es) [] pos) (tMkO C (spFailI K C) [] ta) := by
  subst hK
  obtain ⟨fd, G, b⟩ := F
  exact pmk_oex T.o T.i T.t G (hr.mono hj) b .nil pass0 hg T.g ha (by decide) he hpl
theorem kVei {X : Cx} {K : Frag} {e : Expr} {es : List Expr} {ta : TA} {p1 p2 pos : Pos} {pl : Sem Bool} (hK : X.K = K) (hg : Gl X "ValueError") (hm : X.mg "ValueError" = none) (ha : PA X (e :: es) ta)
    (hc : eval (.Call (.Attribute (.Name "ValueError" p1) "__init__" p2) (e :: es) [] pos) X.env = (do
      let ov ← eval (.Name "ValueError" p1) X.env
      standAt p2.atName
      let (f, first) ← holding [ov] (getMethod ov "__init__" pl)
      callWith pos f first (backTo pos (starEach (e :: es) X.env)) (backToKw pos (keywordEach [] X.env))) := by rfl)
    (he : starEach (e :: es) X.env = (false, eval e X.env) :: starEach es X.env := by rfl) (hpl : (backTo pos (starEach es X.env)).any (·.1) = false := by rfl) : PE X (.Call (.Attribute (.Name "ValueError" p1) "__init__" p2) (e :: es) [] pos) (tVeI K ta) := by
  subst hK
  exact pe_veinit (pl := pl) hg hm rfl ha hc he hpl
theorem kOst {X : Cx} {K : Frag} {o e : Expr} {f : Str} {to te : TE} {p' pos : Pos} (hK : X.K = K) (ho : PE X o to) (he : PE X e te) (hs : swapsWith e (some (.Attribute o f p')) pos.line X.env = pure false := by rfl) : PS X (.Assign [.Attribute o f p'] e pos) (tOst K f to te) := hK ▸ ps_ost ho he hs
theorem hasFail_of {P : Program} {w : World} {K : Frag} {mg : Str → Option Value} {base : Heap} {C f : Addr} {fd : FuncData} {st : Stmt} {N : List Str} (F : FnP K "__init__" "Failed.__init__" st f fd) (b : Binds K fd ["self", "word", "name"] []) (S : FnScope N ["self", "word", "name"] (defScope st))
    (hbody : ∀ (cdv : Value) (A : Around) (outer : List Env) (s : Shared) (H : Hp) (vs : List V) (Q : VK) (E : XK), Room 0 (A.deeper (envOfC "Failed.__init__" (defScope st) s.heap.objs.size f cdv)) → spFailI K C vs H Q E →
      ∃ t, PSs (cxOf CX0 P w K mg base N "Failed.__init__" (defScope st) f cdv A outer s H E).nox (defBody st) t ∧ t { nx := fun _ H' => Q .non H', rt := Q } (start N vs) H) : HasFail P w K mg base C f :=
  ⟨fd, F.ok S (by rintro _ _ _ _ ⟨_, _, _, rfl, _⟩; rfl) (fun cdv A outer s H vs Q E hr h => by
    obtain ⟨t, ht, r⟩ := hbody cdv A outer s H vs Q E hr h
    exact ⟨t, PSs.nox ht, r⟩), b⟩
theorem t_reckW {K : Frag} {C : Addr} {σ : L2.St} {H : Hp} {Q : VK} {E : XK} {t1 t2 t3 : TE} {w : Str} {i : Int} (h1 : Ev t1 σ H (.str w)) (h2 : Ev t2 σ H (.int i)) (h3 : ∀ H2, Ex H H2 → t3 σ H2 fun z H3 => spReck K C [.str w, .int i, z] H3 Q E) : tCall (spReck K C) [] E (tCons t1 (tCons t2 (tCons t3 tNil))) σ H Q :=
  h1 H (Ex.refl H) _ fun H1 e1 => h2 H1 e1 _ fun H2 e2 => h3 H2 (e1.trans e2)
theorem worthM_op {S : Type} {step : S → Str → Option Int × S} {mine : List (Str × Int)} {w : Str} {a b : Sm} {s s1 s2 : S} {i j : Int} (h : worthM step mine a s = (Except.ok i, s1)) (h2 : worthM step mine b s1 = (Except.ok j, s2)) : worthM step mine (.op w a b) s = (reck w i j, s2) := by
  simp only [worthM, h, h2]
theorem worthM_opE2 {S : Type} {step : S → Str → Option Int × S} {mine : List (Str × Int)} {w : Str} {a b : Sm} {s s1 s2 : S} {i : Int} {y : Why} (h : worthM step mine a s = (Except.ok i, s1)) (h2 : worthM step mine b s1 = (Except.error y, s2)) : worthM step mine (.op w a b) s = (Except.error y, s2) := by
  simp only [worthM, h, h2]
theorem worthM_opE {S : Type} {step : S → Str → Option Int × S} {mine : List (Str × Int)} {w : Str} {a b : Sm} {s s1 : S} {y : Why} (h : worthM step mine a s = (Except.error y, s1)) : worthM step mine (.op w a b) s = (Except.error y, s1) := by
  simp only [worthM, h]
theorem worthM_ite {S : Type} {step : S → Str → Option Int × S} {mine : List (Str × Int)} {a b c : Sm} {s s1 : S} {i : Int} (h : worthM step mine a s = (Except.ok i, s1)) : worthM step mine (.ite a b c) s = worthM step mine (if i = 0 then c else b) s1 := by
  simp only [worthM, h]
  split <;> rfl
theorem worthM_iteE {S : Type} {step : S → Str → Option Int × S} {mine : List (Str × Int)} {a b c : Sm} {s s1 : S} {y : Why} (h : worthM step mine a s = (Except.error y, s1)) : worthM step mine (.ite a b c) s = (Except.error y, s1) := by
  simp only [worthM, h]
theorem worthM_nm {S : Type} {step : S → Str → Option Int × S} {mine : List (Str × Int)} {x : Str} {s : S} {i : Int} (h : mine.lookup x = some i) : worthM step mine (.nm x) s = (Except.ok i, s) := by
  simp only [worthM, h]
theorem worthM_ask {S : Type} {step : S → Str → Option Int × S} {mine : List (Str × Int)} {x : Str} {s s1 : S} {i : Int} (h : mine.lookup x = none) (e : step s x = (some i, s1)) : worthM step mine (.nm x) s = (Except.ok i, s1) := by
  simp only [worthM, h, e]
theorem worthM_lack {S : Type} {step : S → Str → Option Int × S} {mine : List (Str × Int)} {x : Str} {s s1 : S} (h : mine.lookup x = none) (e : step s x = (none, s1)) : worthM step mine (.nm x) s = (Except.error (("lacks", some x) : Why), s1) := by
  simp only [worthM, h, e]
theorem atI_3 {α : Type} (w z y x : α) (r : List α) : atI (w :: z :: y :: x :: r) 3 = some x := by
  simp [atI, ixN]
  rw [if_pos (by omega)]
  rfl
end LC

namespace LC
open PySem PySem.Spec PyProof.Rows L2 Evl LamX NdefX
section
variable {M M' : Addr → Prop} {B B' H H' : Hp} {p : Addr} {o : HO}
/-- a new thing goes to the data -/
theorem Fr.add (f : Fr M M' B H H' B') (h0 : H p = none) (hp : H' p = some o) (b : B' p = none) : Fr M M' B H H' (upd B' p o) := by
  refine ⟨f.fr, f.xd.trans (Ex.new b), fun a u h => ?_, fun a h1 h2 => ?_, f.mm, f.sub, f.stay⟩
  · by_cases z : a = p
    · rw [z, upd_same] at h
      cases h
      rw [z]
      exact hp
    · rw [upd_ne z] at h
      exact f.d2 _ _ h
  · have z : a ≠ p := fun z => h2 (by rw [z]; exact h0)
    rw [upd_ne z]
    exact f.nw a h1 h2
theorem Fr.new {q : Addr} {u : HO} (f : Fr M M' B H H' B') (hq : H' q = none) : Fr M M' B H (upd H' q u) B' := f.trans (Fr.of (Gr.base f.d2 (Ex.new hq)))
/-- a write to a thing of one's own that is new -/
theorem Fr.wr {u : HO} (f : Fr M M' B H H' B') (h0 : H p = none) (b : B' p = none) : Fr M M' B H (upd H' p u) B' := by
  refine ⟨fun a o h n => ?_, f.xd, ex_upd f.d2 b, f.nw, f.mm, f.sub, fun a h => ?_⟩
  · rw [upd_ne (ne_of_none h h0)]
    exact f.fr a o h n
  · by_cases z : a = p
    · rw [z, upd_same]
      exact fun z => nomatch z
    · rw [upd_ne z]
      exact f.stay a h
end
theorem kBm {X : Cx} {K : Frag} {T id : String} {name : Str} {o e : Expr} {es : List Expr} {to : TE} {t : TA} {r : V → List V → Hp → VK → Prop} {apos cpos : Pos} (hK : X.K = K) (pa : PlainAttrs T) (slot : Slot T name id) (hty : typeOf (.builtin id) = pure (.type "method_descriptor")) (hm : MtR X id r) (ho : PE X o to) (ha : PA X (e :: es) t)
    (hbase : attributeBase o name X.env (eval o X.env) = eval o X.env := by rfl)
    (hfew : ((backTo cpos (starEach (e :: es) X.env)).all (fun x => !x.1) && (backToKw cpos (keywordEach [] X.env)).all (fun x => x.1.isSome) && decide ((e :: es).length + ([] : List Keyword).length + (if ([] : List Keyword).isEmpty then 0 else 1) < 30)) = true := by rfl)
    (hline : (apos.endLine == cpos.line) = true := by rfl) (hs : starEach (e :: es) X.env = (false, eval e X.env) :: starEach es X.env := by rfl) (hplain : (backTo cpos (starEach es X.env)).any (·.1) = false := by rfl) : PE X (.Call (.Attribute o name apos) (e :: es) [] cpos) (tBM K T r to t) := by
  subst hK
  exact pe_bm pa slot hty hm ho ha hbase hfew hline hs hplain
section
variable {σ : L2.St} {H : Hp} {td ty tv : TE} {D : Ends} {a : Addr} {kvs : List (Key × V)} {k : Key} {v : V} {i : Nat}
theorem s_dput (hv : Ev tv σ H v) (hd : Ev td σ H (.ref a)) (hk : Ev ty σ H (kV k)) (ha : H a = some (.dK kvs)) (hl : kvs.length < 100000) (kk : ∀ H1, Ex H H1 → D.nx σ (upd H1 a (.dK (putK kvs k v)))) : sDPut td ty tv D σ H :=
  hv H (Ex.refl H) _ fun H1 e1 => hd H1 e1 _ fun H2 e2 => hk H2 (e1.trans e2) _ fun H3 e3 => ⟨a, _, rfl, DPut.k (k := k) (((e1.trans e2).trans e3) _ _ ha) (sz_lt hl), kk H3 ((e1.trans e2).trans e3)⟩
theorem s_dnew (kk : ∀ p, H p = none → D.nx (σ.set i (some (.ref p))) (upd H p (.dK []))) : tAsg tDNewK (gName i) D σ H := kk
theorem s_lnew (kk : ∀ p, H p = none → D.nx (σ.set i (some (.ref p))) (upd H p (.lst []))) : tAsg (tLst tNil) (gName i) D σ H := ⟨Nat.zero_le _, kk⟩
end
theorem Own.put {M : Addr → Prop} {B H : Hp} {p q : Addr} {o u : HO} (w : Own M B H p o) (h : p ≠ q) : Own M B (upd H q u) p o := ⟨by rw [upd_ne h]; exact w.h, w.b, w.m⟩
theorem Own.set {M : Addr → Prop} {B H : Hp} {p : Addr} {o u : HO} (w : Own M B H p o) : Own M B (upd H p u) p u := ⟨upd_same, w.b, w.m⟩
def spDone (K : Frag) (C : Addr) (mk : NF → Prop) (fr : List Str) (sp : List V → Sp) : Sp := fun vs H Q _ => ∃ (S : Type) (J : JT S) (step : S → Str → Option Int × S) (fa : Addr) (v : V) (src : Src) (M : Addr → Prop) (B : Hp) (s0 : S) (Nm : List Str),
  vs = [v, .ref fa] ∧ Asks K C mk fr sp fa S J step Nm ∧ (∀ r ∈ src, ∀ x ∈ r.sum.names, x ∈ Nm) ∧ J s0 M B H ∧ Dt K B v (encS src) ∧ goodS src = true ∧
  ∀ r s1, doneM step src [] [] s0 = (r, s1) → ∀ tp pf pm wv H' B' M', Fr M M' B H H' B' → J s1 M' B' H' → B' tp = some (.tup [.ref pf, .ref pm, wv]) → B' pf = some (.lst (r.shown.map V.int)) → B' pm = some (.dK (encM r.mine)) → Dt K B' wv (encWhy r.why) → H tp = none → H pf = none → H pm = none → Q (.ref tp) H'
section
variable {K : Frag} {C : Addr} {mk : NF → Prop} {fr : List Str} {sp : List V → Sp} {S : Type} {J : JT S} {step : S → Str → Option Int × S} {Nm : List Str} {fa pm pf : Addr} {s1 : S} {M M' : Addr → Prop} {B B' H H' : Hp} {Q : VK} {l : List V} {k : List (Key × V)} {wv : V} {d : PyData}
theorem done_end (A : Asks K C mk fr sp fa S J step Nm) (f : Fr M M' B H H' B') (j : J s1 M' B' H') (of : Own M' B' H' pf (.lst l)) (om : Own M' B' H' pm (.dK k)) (nf : H pf = none) (nm : H pm = none) (dw : Dt K B' wv d)
    (h : ∀ tp H'' B'', Fr M M' B H H'' B'' → J s1 M' B'' H'' → B'' tp = some (.tup [.ref pf, .ref pm, wv]) → B'' pf = some (.lst l) → B'' pm = some (.dK k) → Dt K B'' wv d → H tp = none → Q (.ref tp) H'') : ∀ tp, H' tp = none → Q (.ref tp) (upd H' tp (.tup [.ref pf, .ref pm, wv])) := by
  intro tp htp
  have ne : pf ≠ pm := ne_of of.h om.h fun z => by cases z
  have j1 := A.add j of.b of.m of.h (.inr (.inl ⟨l, rfl⟩))
  have bm : upd B' pf (.lst l) pm = none := by rw [upd_ne (Ne.symm ne)]; exact om.b
  have j2 := A.add j1 bm om.m om.h (.inl ⟨k, rfl⟩)
  have f2 := (f.add nf of.h of.b).add nm om.h bm
  have g : Gr (upd (upd B' pf (.lst l)) pm (.dK k)) H' (upd H' tp (.tup [.ref pf, .ref pm, wv])) (upd (upd (upd B' pf (.lst l)) pm (.dK k)) tp (.tup [.ref pf, .ref pm, wv])) := (Gr.base (A.x j2) (Ex.refl _)).new _ htp
  have tf : pf ≠ tp := ne_of_none of.h htp
  have tm : pm ≠ tp := ne_of_none om.h htp
  have bt : upd (upd B' pf (.lst l)) pm (.dK k) tp = none := fresh_back (A.x j2) htp
  refine h tp _ _ (f2.trans (Fr.of g)) (A.gr j2 g) upd_same ?_ ?_ (dp_ex (((Ex.new of.b).trans (Ex.new bm)).trans (Ex.new bt)) _ _ dw) ?_
  · rw [upd_ne tf, upd_ne ne, upd_same]
  · rw [upd_ne tm, upd_same]
  · cases q : H tp with
    | none => rfl
    | some o => exact absurd htp (f.stay tp (by rw [q]; exact fun z => nomatch z))
end
section
variable {S : Type} {step : S → Str → Option Int × S} {r : Rw} {src : Src} {f : List Int} {m : List (Str × Int)} {s s1 : S}
theorem doneM_fail {y : Why} (h : worthM step m r.sum s = (Except.error y, s1)) : doneM step (r :: src) f m s = (⟨f, [], some y⟩, s1) := by
  cases r with
  | set x q =>
    have h : worthM step m q s = (Except.error y, s1) := h
    simp only [doneM, h]
  | shw q =>
    have h : worthM step m q s = (Except.error y, s1) := h
    simp only [doneM, h]
theorem doneM_set {x : Str} {q : Sm} {i : Int} (h : worthM step m q s = (Except.ok i, s1)) : doneM step (.set x q :: src) f m s = doneM step src f (putP m x i) s1 := by simp only [doneM, h]
theorem doneM_shw {q : Sm} {i : Int} (h : worthM step m q s = (Except.ok i, s1)) : doneM step (.shw q :: src) f m s = doneM step src (f ++ [i]) m s1 := by simp only [doneM, h]
end
theorem putP_len (m : List (Str × Int)) (x : Str) (i : Int) : (putP m x i).length ≤ m.length + 1 := by
  unfold putP
  split
  · rw [List.length_map]; omega
  · rw [List.length_append]; exact Nat.le_refl _
end LC

namespace LC
open PySem L2
/-! ### what a run comes to, over plain states -/
section
variable {S S' : Type} {step : S → Str → Option Int × S} {step' : S' → Str → Option Int × S'}
/-- two ways of keeping what was asked -/
theorem worthM_map (π : S → S') (h : ∀ s x, step' (π s) x = ((step s x).1, π (step s x).2)) (m : List (Str × Int)) : ∀ (q : Sm) (s : S), worthM step' m q (π s) = ((worthM step m q s).1, π (worthM step m q s).2)
  | .num i, s => rfl
  | .nm x, s => by
    unfold worthM
    cases hl : m.lookup x with
    | some v => rfl
    | none =>
      have e := h s x
      cases q : step s x with
      | mk o s1 =>
        rw [q] at e
        cases o <;> simp [e]
  | .op w a b, s => by
    have ha := worthM_map π h m a s
    cases q : worthM step m a s with
    | mk o s1 =>
      rw [q] at ha
      cases o with
      | error y => rw [worthM_opE q, worthM_opE ha]
      | ok i =>
        have hb := worthM_map π h m b s1
        cases q2 : worthM step m b s1 with
        | mk o2 s2 =>
          rw [q2] at hb
          cases o2 with
          | error y => rw [worthM_opE2 q q2, worthM_opE2 ha hb]
          | ok j => rw [worthM_op q q2, worthM_op ha hb]
  | .ite a b c, s => by
    have ha := worthM_map π h m a s
    cases q : worthM step m a s with
    | mk o s1 =>
      rw [q] at ha
      cases o with
      | error y => rw [worthM_iteE q, worthM_iteE ha]
      | ok i =>
        rw [worthM_ite q, worthM_ite ha]
        split
        · exact worthM_map π h m c s1
        · exact worthM_map π h m b s1
theorem doneM_map (π : S → S') (h : ∀ s x, step' (π s) x = ((step s x).1, π (step s x).2)) : ∀ (src : Src) (f : List Int) (m : List (Str × Int)) (s : S), doneM step' src f m (π s) = ((doneM step src f m s).1, π (doneM step src f m s).2)
  | [], f, m, s => rfl
  | r :: src, f, m, s => by
    have ha := worthM_map π h m r.sum s
    cases q : worthM step m r.sum s with
    | mk o s1 =>
      rw [q] at ha
      cases o with
      | error y => rw [doneM_fail q, doneM_fail ha]
      | ok i =>
        cases r with
        | set x q0 => rw [doneM_set (q := q0) q, doneM_set (q := q0) ha]; exact doneM_map π h src f _ s1
        | shw q0 => rw [doneM_shw (q := q0) q, doneM_shw (q := q0) ha]; exact doneM_map π h src _ m s1
/-- what holds at each ask holds in the end -/
theorem worthM_inv (P : S → Prop) (h : ∀ s x, P s → P (step s x).2) (m : List (Str × Int)) : ∀ (q : Sm) (s : S), P s → P (worthM step m q s).2
  | .num i, s, p => p
  | .nm x, s, p => by
    unfold worthM
    cases hl : m.lookup x with
    | some v => exact p
    | none =>
      have e := h s x p
      cases q : step s x with
      | mk o s1 =>
        rw [q] at e
        cases o <;> exact e
  | .op w a b, s, p => by
    have ha := worthM_inv P h m a s p
    cases q : worthM step m a s with
    | mk o s1 =>
      rw [q] at ha
      cases o with
      | error y => rw [worthM_opE q]; exact ha
      | ok i =>
        have hb := worthM_inv P h m b s1 ha
        cases q2 : worthM step m b s1 with
        | mk o2 s2 =>
          rw [q2] at hb
          cases o2 with
          | error y => rw [worthM_opE2 q q2]; exact hb
          | ok j => rw [worthM_op q q2]; exact hb
  | .ite a b c, s, p => by
    have ha := worthM_inv P h m a s p
    cases q : worthM step m a s with
    | mk o s1 =>
      rw [q] at ha
      cases o with
      | error y => rw [worthM_iteE q]; exact ha
      | ok i =>
        rw [worthM_ite q]
        split
        · exact worthM_inv P h m c s1 ha
        · exact worthM_inv P h m b s1 ha
theorem doneM_inv (P : S → Prop) (h : ∀ s x, P s → P (step s x).2) : ∀ (src : Src) (f : List Int) (m : List (Str × Int)) (s : S), P s → P (doneM step src f m s).2
  | [], f, m, s, p => p
  | r :: src, f, m, s, p => by
    have ha := worthM_inv P h m r.sum s p
    cases q : worthM step m r.sum s with
    | mk o s1 =>
      rw [q] at ha
      cases o with
      | error y => rw [doneM_fail q]; exact ha
      | ok i =>
        cases r with
        | set x q0 => rw [doneM_set (q := q0) q]; exact doneM_inv P h src f _ s1 ha
        | shw q0 => rw [doneM_shw (q := q0) q]; exact doneM_inv P h src _ m s1 ha
end
/-! ### names asked for -/
abbrev Asked := List (Str × Option Int)
def noteA (as : Asked) (x : Str) (v : Option Int) : Asked := if x ∈ as.map (·.1) then as else as ++ [(x, v)]
def stepA (known : Str → Option Int) (as : Asked) (x : Str) : Option Int × Asked := (known x, noteA as x (known x))
def runA (known : Str → Option Int) (src : Src) : DoneS × Asked := doneM (stepA known) src [] [] []
/-! ### setters, numbers -/
def setsB (st : NbS) (m : Nat) (x : Str) : Bool := !(st.cell m).struck && decide (x ∈ setsOf (st.cell m).src)
def setterL (st : NbS) (l : List Nat) (x : Str) : Option Nat := l.foldl (fun acc m => if setsB st m x then some m else acc) none
def ahead (st : NbS) (n : Nat) : List Nat := st.row.take (st.row.idxOf n)
def setterF (st : NbS) (n : Nat) (x : Str) : Option Nat := setterL st (ahead st n) x
def knownGo (st : NbS) (known : Str → Option Int) (m : Nat) (x : Str) : Option Int := if setsB st m x then (runA known (st.cell m).src).1.mine.lookup x else known x
def knownL (st : NbS) (l : List Nat) : Str → Option Int := l.foldl (knownGo st) fun _ => none
def knownAt (st : NbS) (n : Nat) : Str → Option Int := knownL st (ahead st n)
def pureRun (st : NbS) (n : Nat) : DoneS × Asked := runA (knownAt st n) (st.cell n).src
def pureRec (st : NbS) (n : Nat) : RecS := ⟨(st.cell n).src, (pureRun st n).2, (pureRun st n).1.shown, (pureRun st n).1.mine, (pureRun st n).1.why⟩
def standsB (st : NbS) (n : Nat) : Bool := match (st.cell n).recd with
  | none => false
  | some r => decide (r.lines = (st.cell n).src) && r.asked.all fun q => decide (knownAt st n q.1 = q.2)
def recC (c : CellS) (r : RecS) : CellS := ⟨c.src, c.count, c.struck, some r⟩
/-- the cells of g have been made fresh -/
def mix (st : NbS) (g : List Nat) : NbS := ⟨st.row, fun m => if m ∈ g then recC (st.cell m) (pureRec st m) else st.cell m, st.after⟩
/-! ### what is visited -/
def standGo (vis : Str → List Nat → List Nat) (val : Str → Option Int) : Asked → List Nat → Bool × List Nat
  | [], g => (true, g)
  | (x, k) :: r, g => if val x = k then standGo vis val r (vis x g) else (false, vis x g)
def stepG (vis : Str → List Nat → List Nat) (val : Str → Option Int) (s : List Nat × Asked) (x : Str) : Option Int × (List Nat × Asked) := (val x, (vis x s.1, noteA s.2 x (val x)))
/-- by the record, if it is of this source; whether it stands, and who was visited -/
def standB (st : NbS) (vis : Str → List Nat → List Nat) (n : Nat) (g : List Nat) : Bool × List Nat := match (st.cell n).recd with
  | none => (false, g)
  | some r => if r.lines = (st.cell n).src then standGo vis (knownAt st n) r.asked g else (false, g)
def visit (st : NbS) : Nat → Nat → List Nat → List Nat
  | 0, _, g => g
  | k + 1, n, g => if n ∈ g then g else
      let vis := fun (x : Str) (g : List Nat) => match setterF st n x with
        | none => g
        | some m => visit st k m g
      (if (standB st vis n g).1 then (standB st vis n g).2 else (doneM (stepG vis (knownAt st n)) (st.cell n).src [] [] ((standB st vis n g).2, [])).2.1) ++ [n]
def visName (st : NbS) (k n : Nat) (x : Str) (g : List Nat) : List Nat := match setterF st n x with
  | none => g
  | some m => visit st k m g
theorem visit_succ (st : NbS) (k n : Nat) (g : List Nat) : visit st (k + 1) n g = if n ∈ g then g else (if (standB st (visName st k n) n g).1 then (standB st (visName st k n) n g).2 else (doneM (stepG (visName st k n) (knownAt st n)) (st.cell n).src [] [] ((standB st (visName st k n) n g).2, [])).2.1) ++ [n] := rfl
theorem standGo_val (vis : Str → List Nat → List Nat) (val : Str → Option Int) : ∀ (as : Asked) (g : List Nat), (standGo vis val as g).1 = as.all fun q => decide (val q.1 = q.2)
  | [], g => rfl
  | (x, k) :: r, g => by
    unfold standGo
    split
    · rename_i h
      rw [standGo_val vis val r]
      simp [h]
    · rename_i h
      simp [h]
theorem standB_val (st : NbS) (vis : Str → List Nat → List Nat) (n : Nat) (g : List Nat) : (standB st vis n g).1 = standsB st n := by
  unfold standB standsB
  cases (st.cell n).recd with
  | none => rfl
  | some r =>
    dsimp only
    split
    · rename_i h
      rw [standGo_val]
      simp [h]
    · rename_i h
      simp [h]
/-- a visit only adds -/
theorem visit_pre (st : NbS) : ∀ (k n : Nat) (g : List Nat), ∃ l, visit st k n g = g ++ l
  | 0, n, g => ⟨[], by rw [List.append_nil]; rfl⟩
  | k + 1, n, g => by
    have hv : ∀ x g, ∃ l, visName st k n x g = g ++ l := fun x g => by
      unfold visName
      split
      · exact ⟨[], by rw [List.append_nil]⟩
      · exact visit_pre st k _ g
    have hs : ∃ l, (standB st (visName st k n) n g).2 = g ++ l := by
      have go : ∀ (as : Asked) (g : List Nat), ∃ l, (standGo (visName st k n) (knownAt st n) as g).2 = g ++ l := by
        intro as
        induction as with
        | nil => exact fun g => ⟨[], by rw [List.append_nil]; rfl⟩
        | cons q r ih =>
          intro g
          obtain ⟨x, v⟩ := q
          obtain ⟨l, hl⟩ := hv x g
          unfold standGo
          split
          · obtain ⟨l2, h2⟩ := ih (visName st k n x g)
            exact ⟨l ++ l2, by rw [h2, hl, List.append_assoc]⟩
          · exact ⟨l, hl⟩
      unfold standB
      split
      · exact ⟨[], by rw [List.append_nil]⟩
      · split
        · exact go _ _
        · exact ⟨[], by rw [List.append_nil]⟩
    rw [visit_succ]
    split
    · exact ⟨[], by rw [List.append_nil]⟩
    · obtain ⟨l, hl⟩ := hs
      split
      · exact ⟨l ++ [n], by rw [hl, List.append_assoc]⟩
      · obtain ⟨l2, h2⟩ := doneM_inv (step := stepG (visName st k n) (knownAt st n)) (fun s => ∃ l, s.1 = g ++ l) (fun s x ⟨l, h⟩ => by
          obtain ⟨l2, h2⟩ := hv x s.1
          exact ⟨l ++ l2, by show visName st k n x s.1 = _; rw [h2, h, List.append_assoc]⟩) (st.cell n).src [] [] ((standB st (visName st k n) n g).2, []) ⟨l, hl⟩
        exact ⟨l2 ++ [n], by rw [h2, List.append_assoc]⟩
end LC

namespace LC
open PySem L2
theorem nodup_len {α : Type} [DecidableEq α] : ∀ {g l : List α}, g.Nodup → (∀ m ∈ g, m ∈ l) → g.length ≤ l.length
  | [], l, _, _ => Nat.zero_le _
  | a :: g, l, nd, h => by
    obtain ⟨na, nd⟩ := List.nodup_cons.mp nd
    have ha := h a (List.mem_cons_self ..)
    have ih := nodup_len (g := g) (l := l.erase a) nd fun m hm => (List.mem_erase_of_ne (show m ≠ a from fun z => na (by rw [← z]; exact hm))).mpr (h m (List.mem_cons_of_mem _ hm))
    have := List.length_erase_of_mem ha
    have := List.length_pos_of_mem ha
    rw [List.length_cons]
    omega
/-! ### setters -/
section
variable {st : NbS} {l rest : List Nat} {m n : Nat} {x : Str}
theorem setterL_snoc : setterL st (l ++ [m]) x = if setsB st m x then some m else setterL st l x := by
  unfold setterL
  rw [List.foldl_append]
  rfl
theorem knownL_snoc : knownL st (l ++ [m]) x = if setsB st m x then (runA (knownL st l) (st.cell m).src).1.mine.lookup x else knownL st l x := by
  unfold knownL
  rw [List.foldl_append]
  rfl
theorem snoc_ind {P : List Nat → Prop} (h0 : P []) (h1 : ∀ l m, P l → P (l ++ [m])) (l : List Nat) : P l := by
  rw [← List.reverse_reverse l]
  induction l.reverse with
  | nil => exact h0
  | cons a r ih => rw [List.reverse_cons]; exact h1 _ _ ih
theorem setterL_mem : ∀ l : List Nat, setterL st l x = some m → m ∈ l ∧ setsB st m x = true := fun l => by
  revert m
  refine snoc_ind (P := fun l => ∀ {m}, setterL st l x = some m → m ∈ l ∧ setsB st m x = true) (fun h => nomatch h) (fun l a ih {m} h => ?_) l
  rw [setterL_snoc] at h
  split at h
  · cases h
    exact ⟨by simp, by assumption⟩
  · have := ih h
    exact ⟨List.mem_append_left _ this.1, this.2⟩
theorem ahead_of (nd : st.row.Nodup) (h : st.row = l ++ m :: rest) : ahead st m = l := by
  unfold ahead
  rw [h] at nd ⊢
  have hm : m ∉ l := fun z => by
    rw [List.nodup_append] at nd
    exact nd.2.2 m z m (List.mem_cons_self ..) rfl
  have e : (l ++ m :: rest).idxOf m = l.length := by
    rw [List.idxOf_append, if_neg hm]
    simp
  rw [e]
  simp
theorem known_setL (nd : st.row.Nodup) (x : Str) : ∀ l rest, st.row = l ++ rest → knownL st l x = match setterL st l x with
    | none => none
    | some m => (pureRec st m).sets.lookup x := fun l => by
  refine snoc_ind (P := fun l => ∀ rest, st.row = l ++ rest → knownL st l x = match setterL st l x with
    | none => none
    | some m => (pureRec st m).sets.lookup x) (fun rest _ => rfl) (fun l m ih rest h => ?_) l
  rw [List.append_assoc] at h
  rw [knownL_snoc, setterL_snoc]
  have e := ahead_of nd (show st.row = l ++ m :: rest from h)
  split
  · show _ = (pureRec st m).sets.lookup x
    unfold pureRec pureRun knownAt
    rw [e]
  · exact ih _ h
theorem known_setter (nd : st.row.Nodup) (n : Nat) (x : Str) : knownAt st n x = match setterF st n x with
    | none => none
    | some m => (pureRec st m).sets.lookup x := known_setL nd x _ _ (List.take_append_drop (st.row.idxOf n) st.row).symm
theorem mem_ahead (nd : st.row.Nodup) (h : m ∈ ahead st n) : m ∈ st.row ∧ st.row.idxOf m < st.row.idxOf n := by
  unfold ahead at h
  have hr := List.mem_of_mem_take h
  refine ⟨hr, ?_⟩
  obtain ⟨i, hi⟩ := List.mem_iff_getElem?.mp h
  have hlt : i < (st.row.take (st.row.idxOf n)).length := (List.getElem?_eq_some_iff.mp hi).1
  rw [List.length_take] at hlt
  rw [List.getElem?_take_of_lt (by omega)] at hi
  have hi' : i < st.row.length := (List.getElem?_eq_some_iff.mp hi).1
  rw [List.getElem?_eq_getElem hi'] at hi
  have e := nd.idxOf_getElem i hi'
  rw [Option.some.inj hi] at e
  omega
theorem setter_mem (nd : st.row.Nodup) (h : setterF st n x = some m) : m ∈ st.row ∧ st.row.idxOf m < st.row.idxOf n ∧ setsB st m x = true := by
  obtain ⟨h1, h2⟩ := setterL_mem _ h
  obtain ⟨h3, h4⟩ := mem_ahead nd h1
  exact ⟨h3, h4, h2⟩
end
/-! ### ranges -/
theorem doneM_in {S : Type} {step : S → Str → Option Int × S} (hs : ∀ s x i s1, step s x = (some i, s1) → InR i) : ∀ (src : Src) (f : List Int) (m : List (Str × Int)) (s : S), (∀ r ∈ src, r.good = true) → (∀ x i, m.lookup x = some i → InR i) → (∀ i ∈ f, InR i) →
    (∀ x i, (doneM step src f m s).1.mine.lookup x = some i → InR i) ∧ ∀ i ∈ (doneM step src f m s).1.shown, InR i
  | [], f, m, s, _, hm, hf => ⟨hm, hf⟩
  | r :: src, f, m, s, hg, hm, hf => by
    have gr := hg r (List.mem_cons_self ..)
    have gs : ∀ r ∈ src, r.good = true := fun r hr => hg r (List.mem_cons_of_mem _ hr)
    have hsum := (Rw.good_sum gr).1
    cases q : worthM step m r.sum s with
    | mk o s1 =>
      cases o with
      | error y =>
        rw [doneM_fail q]
        exact ⟨fun x i h => (nomatch h), hf⟩
      | ok k =>
        have hk := worthM_in step m hs hm r.sum s k s1 hsum q
        cases r with
        | set z q0 =>
          rw [doneM_set (q := q0) q]
          refine doneM_in hs src f _ s1 gs (fun x i h => ?_) hf
          rw [putP_look] at h
          split at h
          · cases h; exact hk
          · exact hm x i h
        | shw q0 =>
          rw [doneM_shw (q := q0) q]
          refine doneM_in hs src _ m s1 gs hm fun i hi => ?_
          rcases List.mem_append.mp hi with h | h
          · exact hf i h
          · rw [List.mem_singleton.mp h]; exact hk
theorem runA_in {known : Str → Option Int} {src : Src} (hk : ∀ x i, known x = some i → InR i) (hg : goodS src = true) : (∀ x i, (runA known src).1.mine.lookup x = some i → InR i) ∧ ∀ i ∈ (runA known src).1.shown, InR i :=
  doneM_in (fun s x i s1 h => by
    injection h with h1 h2
    exact hk x i h1) src [] [] [] (fun r hr => goodS_row hg hr) (fun x i h => nomatch h) fun i h => nomatch h
theorem knownL_in {st : NbS} (x : Str) (i : Int) : ∀ l : List Nat, (∀ m ∈ l, goodS (st.cell m).src = true) → knownL st l x = some i → InR i := fun l => by
  revert x i
  refine snoc_ind (P := fun l => ∀ x i, (∀ m ∈ l, goodS (st.cell m).src = true) → knownL st l x = some i → InR i) (fun x i _ h => nomatch h) (fun l m ih x i hg h => ?_) l
  rw [knownL_snoc] at h
  have hl : ∀ m ∈ l, goodS (st.cell m).src = true := fun m hm => hg m (List.mem_append_left _ hm)
  split at h
  · exact (runA_in (fun x i h => ih x i hl h) (hg m (by simp))).1 x i h
  · exact ih x i hl h
theorem known_in {st : NbS} (G : NbG st) {n : Nat} {x : Str} {i : Int} (h : knownAt st n x = some i) : InR i := knownL_in x i _ (fun m hm => G.good m (List.mem_of_mem_take hm)) h
/-! ### records -/
def orc (as : Asked) (x : Str) : Option Int := (as.lookup x).getD none
def ValidR (r : RecS) : Prop := runA (orc r.asked) r.lines = (⟨r.shown, r.sets, r.why⟩, r.asked)
theorem noteA_sub {as : Asked} {x : Str} {v : Option Int} {q : Str × Option Int} (h : q ∈ as) : q ∈ noteA as x v := by
  unfold noteA
  split
  · exact h
  · exact List.mem_append_left _ h
theorem noteA_has (as : Asked) (x : Str) (v : Option Int) : x ∈ (noteA as x v).map (·.1) := by
  unfold noteA
  split
  · assumption
  · simp
/-- asked the same, the same comes -/
theorem worthM_agree {k k' : Str → Option Int} (m : List (Str × Int)) : ∀ (q : Sm) (s : Asked), (∀ x ∈ (worthM (stepA k) m q s).2.map (·.1), k x = k' x) → worthM (stepA k') m q s = worthM (stepA k) m q s
  | .num i, s, _ => rfl
  | .nm x, s, h => by
    cases hl : m.lookup x with
    | some v => rw [worthM_nm hl, worthM_nm hl]
    | none =>
      have key : x ∈ (worthM (stepA k) m (.nm x) s).2.map (·.1) := by
        cases hk : k x with
        | some v =>
          rw [worthM_ask (s1 := noteA s x (k x)) (i := v) hl (by unfold stepA; rw [hk])]
          exact noteA_has _ _ _
        | none =>
          rw [worthM_lack (s1 := noteA s x (k x)) hl (by unfold stepA; rw [hk])]
          exact noteA_has _ _ _
      have e := h x key
      have es : stepA k' s x = stepA k s x := by unfold stepA; rw [e]
      cases hk : k x with
      | some v => rw [worthM_ask (s1 := noteA s x (k x)) (i := v) hl (by rw [es]; unfold stepA; rw [hk]), worthM_ask (s1 := noteA s x (k x)) (i := v) hl (by unfold stepA; rw [hk])]
      | none => rw [worthM_lack (s1 := noteA s x (k x)) hl (by rw [es]; unfold stepA; rw [hk]), worthM_lack (s1 := noteA s x (k x)) hl (by unfold stepA; rw [hk])]
  | .op w a b, s, h => by
    cases q : worthM (stepA k) m a s with
    | mk o s1 =>
      cases o with
      | error y =>
        rw [worthM_opE q] at h ⊢
        have := worthM_agree m a s (by rw [q]; exact h)
        rw [worthM_opE (this.trans q)]
      | ok i =>
        cases q2 : worthM (stepA k) m b s1 with
        | mk o2 s2 =>
          have sub : ∀ z ∈ s1, z ∈ s2 := fun z hz => by
            have := worthM_inv (step := stepA k) (fun s => z ∈ s) (fun s x h => noteA_sub h) m b s1 hz
            rw [q2] at this
            exact this
          have fin : ∀ x ∈ s2.map (·.1), k x = k' x := by
            cases o2 with
            | error y => rw [worthM_opE2 q q2] at h; exact h
            | ok j => rw [worthM_op q q2] at h; exact h
          have h1 := worthM_agree m a s (by
            rw [q]
            intro x hx
            obtain ⟨z, hz, rfl⟩ := List.mem_map.mp hx
            exact fin _ (List.mem_map.mpr ⟨z, sub z hz, rfl⟩))
          have h2 := worthM_agree m b s1 (by rw [q2]; exact fin)
          cases o2 with
          | error y => rw [worthM_opE2 q q2, worthM_opE2 (h1.trans q) (h2.trans q2)]
          | ok j => rw [worthM_op q q2, worthM_op (h1.trans q) (h2.trans q2)]
  | .ite a b c, s, h => by
    cases q : worthM (stepA k) m a s with
    | mk o s1 =>
      cases o with
      | error y =>
        rw [worthM_iteE q] at h ⊢
        have := worthM_agree m a s (by rw [q]; exact h)
        rw [worthM_iteE (this.trans q)]
      | ok i =>
        rw [worthM_ite q] at h ⊢
        have sub : ∀ (e : Sm), ∀ z ∈ s1, z ∈ (worthM (stepA k) m e s1).2 := fun e z hz => worthM_inv (step := stepA k) (fun s => z ∈ s) (fun s x h => noteA_sub h) m e s1 hz
        have h1 := worthM_agree m a s (by
          rw [q]
          intro x hx
          obtain ⟨z, hz, rfl⟩ := List.mem_map.mp hx
          exact h _ (List.mem_map.mpr ⟨z, sub _ z hz, rfl⟩))
        rw [worthM_ite (h1.trans q)]
        split at h
        · rename_i hi
          rw [if_pos hi]
          exact worthM_agree m c s1 h
        · rename_i hi
          rw [if_neg hi]
          exact worthM_agree m b s1 h
theorem doneM_agree {k k' : Str → Option Int} : ∀ (src : Src) (f : List Int) (m : List (Str × Int)) (s : Asked), (∀ x ∈ (doneM (stepA k) src f m s).2.map (·.1), k x = k' x) → doneM (stepA k') src f m s = doneM (stepA k) src f m s
  | [], f, m, s, _ => rfl
  | r :: src, f, m, s, h => by
    cases q : worthM (stepA k) m r.sum s with
    | mk o s1 =>
      have sub : ∀ f' m', ∀ z ∈ s1, z ∈ (doneM (stepA k) src f' m' s1).2 := fun f' m' z hz => doneM_inv (step := stepA k) (fun s => z ∈ s) (fun s x h => noteA_sub h) src f' m' s1 hz
      cases o with
      | error y =>
        rw [doneM_fail q] at h ⊢
        have := worthM_agree m r.sum s (by rw [q]; exact h)
        rw [doneM_fail (this.trans q)]
      | ok i =>
        cases r with
        | set x q0 =>
          rw [doneM_set (q := q0) q] at h ⊢
          have h1 := worthM_agree m q0 s (by
            rw [show worthM (stepA k) m q0 s = _ from q]
            intro x hx
            obtain ⟨z, hz, rfl⟩ := List.mem_map.mp hx
            exact h _ (List.mem_map.mpr ⟨z, sub _ _ z hz, rfl⟩))
          rw [doneM_set (q := q0) (h1.trans q)]
          exact doneM_agree src _ _ s1 h
        | shw q0 =>
          rw [doneM_shw (q := q0) q] at h ⊢
          have h1 := worthM_agree m q0 s (by
            rw [show worthM (stepA k) m q0 s = _ from q]
            intro x hx
            obtain ⟨z, hz, rfl⟩ := List.mem_map.mp hx
            exact h _ (List.mem_map.mpr ⟨z, sub _ _ z hz, rfl⟩))
          rw [doneM_shw (q := q0) (h1.trans q)]
          exact doneM_agree src _ _ s1 h
theorem lookup_mem {α β : Type} [BEq α] [LawfulBEq α] {x : α} : ∀ {l : List (α × β)}, x ∈ l.map (·.1) → ∃ v, l.lookup x = some v ∧ (x, v) ∈ l
  | [], h => nomatch h
  | (y, v) :: l, h => by
    by_cases e : x = y
    · subst e
      exact ⟨v, by simp [List.lookup], List.mem_cons_self ..⟩
    · have hb : (x == y) = false := beq_false_of_ne e
      have h' : x ∈ l.map (·.1) := by
        rcases List.mem_cons.mp h with h | h
        · exact absurd h e
        · exact h
      obtain ⟨u, h1, h2⟩ := lookup_mem h'
      exact ⟨u, by simp [List.lookup, hb, h1], List.mem_cons_of_mem _ h2⟩
theorem orc_agree {as : Asked} {known : Str → Option Int} (h : ∀ q ∈ as, known q.1 = q.2) : ∀ x ∈ as.map (·.1), orc as x = known x := fun x hx => by
  obtain ⟨v, h1, h2⟩ := lookup_mem hx
  unfold orc
  rw [h1, h _ h2]
  rfl
theorem runA_asked (known : Str → Option Int) (src : Src) : ∀ q ∈ (runA known src).2, known q.1 = q.2 := by
  refine doneM_inv (step := stepA known) (fun s => ∀ q ∈ s, known q.1 = q.2) (fun s x h q hq => ?_) src [] [] [] fun q h => nomatch h
  unfold stepA noteA at hq
  dsimp only at hq
  split at hq
  · exact h q hq
  · rcases List.mem_append.mp hq with h' | h'
    · exact h q h'
    · rw [List.mem_singleton.mp h']
/-- what was asked is in the source, each once -/
theorem worthM_names {S : Type} {step : S → Str → Option Int × S} {Nm : List Str} (P : S → Prop) (h : ∀ s x, x ∈ Nm → P s → P (step s x).2) (m : List (Str × Int)) : ∀ (q : Sm) (s : S), (∀ x ∈ q.names, x ∈ Nm) → P s → P (worthM step m q s).2
  | .num i, s, _, p => p
  | .nm x, s, hn, p => by
    cases hl : m.lookup x with
    | some v => rw [worthM_nm hl]; exact p
    | none =>
      have e := h s x (hn x (by simp [Sm.names])) p
      cases q : step s x with
      | mk o s1 =>
        rw [q] at e
        cases o with
        | none => rw [worthM_lack hl q]; exact e
        | some v => rw [worthM_ask hl q]; exact e
  | .op w a b, s, hn, p => by
    have na : ∀ x ∈ a.names, x ∈ Nm := fun x hx => hn x (by simp [Sm.names, hx])
    have nb : ∀ x ∈ b.names, x ∈ Nm := fun x hx => hn x (by simp [Sm.names, hx])
    have ha := worthM_names P h m a s na p
    cases q : worthM step m a s with
    | mk o s1 =>
      rw [q] at ha
      cases o with
      | error y => rw [worthM_opE q]; exact ha
      | ok i =>
        have hb := worthM_names P h m b s1 nb ha
        cases q2 : worthM step m b s1 with
        | mk o2 s2 =>
          rw [q2] at hb
          cases o2 with
          | error y => rw [worthM_opE2 q q2]; exact hb
          | ok j => rw [worthM_op q q2]; exact hb
  | .ite a b c, s, hn, p => by
    have na : ∀ x ∈ a.names, x ∈ Nm := fun x hx => hn x (by simp [Sm.names, hx])
    have nb : ∀ x ∈ b.names, x ∈ Nm := fun x hx => hn x (by simp [Sm.names, hx])
    have nc : ∀ x ∈ c.names, x ∈ Nm := fun x hx => hn x (by simp [Sm.names, hx])
    have ha := worthM_names P h m a s na p
    cases q : worthM step m a s with
    | mk o s1 =>
      rw [q] at ha
      cases o with
      | error y => rw [worthM_iteE q]; exact ha
      | ok i =>
        rw [worthM_ite q]
        split
        · exact worthM_names P h m c s1 nc ha
        · exact worthM_names P h m b s1 nb ha
theorem doneM_names {S : Type} {step : S → Str → Option Int × S} {Nm : List Str} (P : S → Prop) (h : ∀ s x, x ∈ Nm → P s → P (step s x).2) : ∀ (src : Src) (f : List Int) (m : List (Str × Int)) (s : S), (∀ r ∈ src, ∀ x ∈ r.sum.names, x ∈ Nm) → P s → P (doneM step src f m s).2
  | [], f, m, s, _, p => p
  | r :: src, f, m, s, hn, p => by
    have ha := worthM_names P h m r.sum s (hn r (List.mem_cons_self ..)) p
    have hr : ∀ r ∈ src, ∀ x ∈ r.sum.names, x ∈ Nm := fun r hr => hn r (List.mem_cons_of_mem _ hr)
    cases q : worthM step m r.sum s with
    | mk o s1 =>
      rw [q] at ha
      cases o with
      | error y => rw [doneM_fail q]; exact ha
      | ok i =>
        cases r with
        | set x q0 => rw [doneM_set (q := q0) q]; exact doneM_names P h src f _ s1 hr ha
        | shw q0 => rw [doneM_shw (q := q0) q]; exact doneM_names P h src _ m s1 hr ha
theorem pure_valid (st : NbS) (n : Nat) : ValidR (pureRec st n) := by
  unfold ValidR
  show runA (orc (pureRun st n).2) (st.cell n).src = ((pureRun st n).1, (pureRun st n).2)
  have h := orc_agree (runA_asked (knownAt st n) (st.cell n).src)
  exact doneM_agree (k := knownAt st n) (k' := orc (pureRun st n).2) (st.cell n).src [] [] [] fun x hx => (h x hx).symm
theorem stand_pure {st : NbS} {n : Nat} {r : RecS} (hr : (st.cell n).recd = some r) (hv : ValidR r) (hs : standsB st n = true) : pureRec st n = r := by
  unfold standsB at hs
  rw [hr] at hs
  dsimp only at hs
  rw [Bool.and_eq_true, decide_eq_true_eq, List.all_eq_true] at hs
  obtain ⟨hl, ha⟩ := hs
  have ag := orc_agree fun q hq => of_decide_eq_true (ha q hq)
  have e : runA (knownAt st n) r.lines = (⟨r.shown, r.sets, r.why⟩, r.asked) := by
    have := doneM_agree (k := orc r.asked) (k' := knownAt st n) r.lines [] [] [] fun x hx => ag x (by
      have hx : x ∈ (runA (orc r.asked) r.lines).2.map (·.1) := hx
      rw [hv] at hx
      exact hx)
    exact this.trans hv
  unfold pureRec pureRun
  rw [← hl, e]
end LC

namespace LC
open PySem PySem.Spec PyProof.Rows L2 Evl LamX NdefX
/-! ### looks: setter, last_told -/
def encI : Option Nat → PyData
  | none => .none
  | some m => .int (m : Int)
def encIV : Option Nat → V
  | none => .non
  | some m => .int (m : Int)
def encOV : Option Int → V
  | none => .non
  | some i => .int i
theorem dt_encI {K : Frag} {H : Hp} : ∀ o : Option Nat, Dt K H (encIV o) (encI o)
  | none => .non
  | some m => .int _
theorem dt_encO {K : Frag} {H : Hp} : ∀ o : Option Int, Dt K H (encOV o) (encO o)
  | none => .non
  | some m => .int _
theorem encI_inv {K : Frag} {H : Hp} {v : V} : ∀ {o : Option Nat}, Dt K H v (encI o) → v = encIV o
  | none, h => dp_none h
  | some m, h => dp_int h
theorem encO_inv {K : Frag} {H : Hp} {v : V} : ∀ {o : Option Int}, Dt K H v (encO o) → v = encOV o
  | none, h => dp_none h
  | some m, h => dp_int h
def R_setter (st : NbS) (ds : List PyData) (o : PyData ⊕ Addr) : Prop := ∃ (n : Nat) (x : Str), ds = [.int (n : Int), .str x] ∧ n ∈ st.row ∧ o = .inl (encI (setterF st n x))
def lastT (st : NbS) (om : Option Nat) (x : Str) : Option Int := match om with
  | none => none
  | some m => match (st.cell m).recd with
    | none => none
    | some r => r.sets.lookup x
def R_last (st : NbS) (ds : List PyData) (o : PyData ⊕ Addr) : Prop := ∃ (om : Option Nat) (x : Str), ds = [encI om, .str x] ∧ (∀ m, om = some m → m ∈ st.row ∧ ∃ r, (st.cell m).recd = some r) ∧ o = .inl (encO (lastT st om x))
section
variable {K : Frag} {σ : L2.St} {H : Hp} {td ty tx : TE} {a : Addr} {kvs : List (Key × V)} {k : Key} {z : V}
theorem ev_get2 (hd : Ev td σ H (.ref a)) (ha : H a = some (.dK kvs)) (hk : Ev ty σ H (kV k)) (hx : Ev tx σ H z) : Ev (tDGet2 td ty tx) σ H ((valV kvs k).getD z) := fun H1 e Q q =>
  hd H1 e _ fun H2 e2 => ⟨a, rfl, .inl ⟨_, .inl ((e.trans e2) _ _ ha)⟩, hk H2 (e.trans e2) _ fun H3 e3 => hx H3 ((e.trans e2).trans e3) _ fun H4 e4 => ⟨_, DGet.k (k := k) ((((e.trans e2).trans e3).trans e4) _ _ ha), q H4 ((e2.trans e3).trans e4)⟩⟩
end
theorem setterL_take {st : NbS} {l : List Nat} {x : Str} {i m : Nat} (h : l[i]? = some m) : setterL st (l.take (i + 1)) x = if setsB st m x then some m else setterL st (l.take i) x := by
  rw [List.take_add_one, h]
  exact setterL_snoc
/-! ### a notebook that is being run -/
structure RS (K : Frag) (T : NbC) (TT : List NTab) (st : NbS) (M : Addr → Prop) (B H : Hp) (nb gd rn : Addr) (g : List Nat) : Prop where
  nB : ∃ Mn : Addr → Prop, NB K T Mn B H nb (mix st g) ∧ (∀ a, Mn a → M a ∨ a = nb) ∧ ¬ Mn gd ∧ ¬ Mn rn ∧ ∀ p ∈ TT, ¬ Mn p.1
  m : ∀ a, M a → B a = none ∧ H a ≠ none
  hg : H gd = some (.dK (g.map fun m : Nat => ((Sum.inl (m : Int) : Key), V.bl true)))
  hr : H rn = some (.lst ((g.filter fun m => !standsB st m).map fun m : Nat => V.int (m : Int)))
  mg : M gd
  mr : M rn
  tb : TabsN TT H
  tm : ∀ p ∈ TT, M p.1
  nd : g.Nodup
  sub : ∀ m ∈ g, m ∈ st.row
  kd : ∀ c, Told TT H c → ¬ M c ∧ B c = none
theorem told_ex {TT : List NTab} {H H' : Hp} {c : Addr} (t : TabsN TT H) (e : ∀ p ∈ TT, ∀ o, H p.1 = some o → H' p.1 = some o) (h : Told TT H' c) : Told TT H c := by
  obtain ⟨p, hp, ps, pos, h1, h2⟩ := h
  obtain ⟨ps2, a1, _, _⟩ := t p hp
  have e2 := e p hp _ a1
  rw [h1] at e2
  cases e2
  exact ⟨p, hp, ps, pos, a1, h2⟩
theorem told_code {TT : List NTab} {H : Hp} {c : Addr} (t : TabsN TT H) (h : Told TT H c) : ∃ q, H c = some (CodeO c q) := by
  obtain ⟨p, hp, ps, pos, h1, h2⟩ := h
  obtain ⟨ps2, a1, _, a3⟩ := t p hp
  rw [h1] at a1
  cases a1
  obtain ⟨c2, e1, e2⟩ := a3 pos _ h2
  cases e1
  exact ⟨_, e2⟩
/-- all records are what a run once left -/
def RecV (st : NbS) : Prop := ∀ n ∈ st.row, ∀ r, (st.cell n).recd = some r → ValidR r ∧ goodS r.lines = true ∧ r.asked.length ≤ 10000 ∧ (∀ q ∈ r.asked, nameS q.1 = true ∧ ∀ i, q.2 = some i → InR i) ∧ r.sets.length ≤ 8
section
variable {K : Frag} {T : NbC} {TT : List NTab} {st : NbS} {M M' Mn : Addr → Prop} {B B' H H' : Hp} {nb gd rn p : Addr} {g : List Nat} {o : HO}
theorem RS.x (R : RS K T TT st M B H nb gd rn g) : Ex B H := by
  obtain ⟨Mn, h, _⟩ := R.nB
  exact h.x
theorem RS.gr (R : RS K T TT st M B H nb gd rn g) (e : Gr B H H' B') : RS K T TT st M B' H' nb gd rn g := by
  obtain ⟨Mn, h, h1, h2, h3, h4⟩ := R.nB
  exact ⟨⟨Mn, h.gr e, h1, h2, h3, h4⟩, fun a ha => ⟨e.fr a (R.m a ha).1 (R.m a ha).2, ne_none e.ex (R.m a ha).2⟩, e.ex _ _ R.hg, e.ex _ _ R.hr, R.mg, R.mr, R.tb.ext e.ex, R.tm, R.nd, R.sub, fun c hc => by
    have hc := told_ex R.tb (fun p _ o h => e.ex _ _ h) hc
    obtain ⟨q, hq⟩ := told_code R.tb hc
    exact ⟨(R.kd c hc).1, e.fr c (R.kd c hc).2 (by rw [hq]; exact fun z => nomatch z)⟩⟩
theorem RS.ex (R : RS K T TT st M B H nb gd rn g) (e : Ex H H') : RS K T TT st M B H' nb gd rn g := R.gr (Gr.base R.x e)
theorem mix_row : (mix st g).row = st.row := rfl
theorem mix_src (m : Nat) : ((mix st g).cell m).src = (st.cell m).src := by
  show (if m ∈ g then recC (st.cell m) (pureRec st m) else st.cell m).src = _
  split <;> rfl
theorem mix_struck (m : Nat) : ((mix st g).cell m).struck = (st.cell m).struck := by
  show (if m ∈ g then recC (st.cell m) (pureRec st m) else st.cell m).struck = _
  split <;> rfl
theorem mix_count (m : Nat) : ((mix st g).cell m).count = (st.cell m).count := by
  show (if m ∈ g then recC (st.cell m) (pureRec st m) else st.cell m).count = _
  split <;> rfl
theorem NbG.mix (G : NbG st) : NbG (mix st g) := ⟨fun n hn => by rw [mix_src]; exact G.good n hn, G.lt, G.nd, G.len, G.few, fun n hn => by rw [mix_count]; exact G.cnt n hn⟩
theorem mix_setsB (m : Nat) (x : Str) : setsB (mix st g) m x = setsB st m x := by
  unfold setsB
  rw [mix_struck, mix_src]
theorem mix_setter (n : Nat) (x : Str) : setterF (mix st g) n x = setterF st n x := by
  unfold setterF setterL
  show List.foldl _ none (ahead st n) = List.foldl _ none (ahead st n)
  congr 1
  funext acc m
  rw [mix_setsB]
theorem mix_rec_in {m : Nat} (h : m ∈ g) : ((mix st g).cell m).recd = some (pureRec st m) := by
  show (if m ∈ g then recC (st.cell m) (pureRec st m) else st.cell m).recd = _
  rw [if_pos h] <;> rfl
theorem mix_rec_out {m : Nat} (h : m ∉ g) : ((mix st g).cell m).recd = (st.cell m).recd := by
  show (if m ∈ g then recC (st.cell m) (pureRec st m) else st.cell m).recd = _
  rw [if_neg h]
/-- a write elsewhere -/
theorem NB.elsewhere (h : NB K T Mn B H nb st) (hb : B p = none) (hm : ¬ Mn p) (u : HO) : NB K T Mn B (upd H p u) nb st := by
  obtain ⟨dn, c, r, kvs, ad, L⟩ := h
  have ne : ∀ a, Mn a → a ≠ p := fun a n z => hm (by rw [← z]; exact n)
  have go : ∀ a o, Mn a → H a = some o → upd H p u a = some o := fun a o n e => by rw [upd_ne (ne a n)]; exact e
  exact ⟨dn, c, r, kvs, ad, ex_upd L.x hb, fun a n => ⟨(L.m a n).1, by rw [upd_ne (ne a n)]; exact (L.m a n).2⟩, go _ _ L.mn L.hn, go _ _ L.mc L.hc, go _ _ L.mr L.hr, L.mn, L.mc, L.mr, L.kin, L.kout, L.kl, L.mad, fun n hn => (L.cells n hn).mono (Ex.refl _) fun o => go _ _ (L.mad n hn), L.inj⟩
def Plain (o : Option HO) : Prop := (∃ k, o = some (.dK k)) ∨ ∃ l, o = some (.lst l)
theorem NB.not_plain (h : NB K T Mn B H nb st) : ¬ Plain (H nb) := fun z => by
  obtain ⟨dn, c, r, kvs, ad, L⟩ := h
  rcases z with ⟨k, z⟩ | ⟨k, z⟩ <;> rw [L.hn] at z <;> cases z
theorem plain_code {c : Addr} {q : Str} (h : Plain (H p)) : c = p → H c = some (CodeO c q) → False := fun z e => by
  rw [z] at e
  rcases h with ⟨k, h⟩ | ⟨k, h⟩ <;> rw [h] at e <;> cases e
theorem tabs_upd (t : TabsN TT H) (hp : Plain (H p)) (n : ∀ q ∈ TT, q.1 ≠ p) (u : HO) : TabsN TT (upd H p u) := fun q hq => by
  obtain ⟨ps, a1, a2, a3⟩ := t q hq
  refine ⟨ps, by rw [upd_ne (n q hq)]; exact a1, a2, fun pos cv hcv => ?_⟩
  obtain ⟨c, b1, b2⟩ := a3 pos cv hcv
  exact ⟨c, b1, by rw [upd_ne (fun z => plain_code hp z b2)]; exact b2⟩
theorem RS.out (R : RS K T TT st M B H nb gd rn g) (hb : B p = none) (hm : ¬ M p) (hp : Plain (H p)) (u : HO) : RS K T TT st M B (upd H p u) nb gd rn g := by
  obtain ⟨Mn, h, h1, h2, h3, h4⟩ := R.nB
  have ne : ∀ a, M a → a ≠ p := fun a ha z => hm (by rw [← z]; exact ha)
  have np : ¬ Mn p := fun z => (h1 _ z).elim hm fun w => h.not_plain (by rw [← w]; exact hp)
  exact ⟨⟨Mn, h.elsewhere hb np u, h1, h2, h3, h4⟩, fun a ha => ⟨(R.m a ha).1, by rw [upd_ne (ne a ha)]; exact (R.m a ha).2⟩, by rw [upd_ne (ne _ R.mg)]; exact R.hg, by rw [upd_ne (ne _ R.mr)]; exact R.hr, R.mg, R.mr, tabs_upd R.tb hp (fun q hq => ne _ (R.tm q hq)) u, R.tm, R.nd, R.sub, fun c hc => R.kd c (told_ex R.tb (fun q hq o h => by rw [upd_ne (ne _ (R.tm q hq))]; exact h) hc)⟩
/-- more data -/
theorem NB.more (h : NB K T Mn B H nb st) (x : Ex B B') (x' : Ex B' H) (m : ∀ a, Mn a → B' a = none) : NB K T Mn B' H nb st := by
  obtain ⟨dn, c, r, kvs, ad, L⟩ := h
  exact ⟨dn, c, r, kvs, ad, L.base x x' m⟩
theorem RS.more (R : RS K T TT st M B H nb gd rn g) (x : Ex B B') (x' : Ex B' H) (m : ∀ a, M a → B' a = none) (bn : B' nb = none) (kc : ∀ c, Told TT H c → B' c = none) : RS K T TT st M B' H nb gd rn g := by
  obtain ⟨Mn, h, h1, h2, h3, h4⟩ := R.nB
  exact ⟨⟨Mn, h.more x x' fun a ha => (h1 a ha).elim (m a) fun w => by rw [w]; exact bn, h1, h2, h3, h4⟩, fun a ha => ⟨m a ha, (R.m a ha).2⟩, R.hg, R.hr, R.mg, R.mr, R.tb, R.tm, R.nd, R.sub, fun c hc => ⟨(R.kd c hc).1, kc c hc⟩⟩
theorem RS.bn (R : RS K T TT st M B H nb gd rn g) : B nb = none ∧ ∃ dn fs, H nb = some (.ins T.N dn fs) := by
  obtain ⟨Mn, h, _⟩ := R.nB
  obtain ⟨dn, c, r, kvs, ad, L⟩ := h
  exact ⟨(L.m _ L.mn).1, dn, _, L.hn⟩
theorem RS.bn_upd (R : RS K T TT st M B H nb gd rn g) (hp : H p = some o) (ho : (∃ k, o = .dK k) ∨ (∃ l, o = .lst l) ∨ ∃ l, o = .tup l) : upd B p o nb = none := by
  obtain ⟨h, dn, fs, e⟩ := R.bn
  rw [upd_ne (fun z => by
    rw [z, hp] at e
    cases e
    rcases ho with ⟨k, z⟩ | ⟨k, z⟩ | ⟨k, z⟩ <;> cases z)]
  exact h
end
end LC

namespace LC
open PySem PySem.Spec PyProof.Rows L2 Evl LamX NdefX
/-! ### sources that are the same -/
mutual
theorem eqv_sm : ∀ (a b : Sm), PyData.eqv a.enc b.enc = decide (a = b)
  | .num i, .num j => by
    show (i == j) = _
    rw [Bool.eq_iff_iff]
    simp
  | .num i, .nm x => rfl
  | .num i, .op w a b => rfl
  | .num i, .ite a b c => rfl
  | .nm x, .num i => rfl
  | .nm x, .nm y => by
    show (x == y) = _
    rw [Bool.eq_iff_iff]
    simp
  | .nm x, .op w a b => rfl
  | .nm x, .ite a b c => rfl
  | .op w a b, .num i => rfl
  | .op w a b, .nm x => rfl
  | .op w a b, .op v c d => by
    have h1 := eqv_sm a c
    have h2 := eqv_sm b d
    have e : PyData.eqv (Sm.op w a b).enc (Sm.op v c d).enc = ((w == v) && (PyData.eqv a.enc c.enc && (PyData.eqv b.enc d.enc && true))) := by
      simp only [Sm.enc, PyData.eqv, PyData.eqvAll]
    rw [e, h1, h2, Bool.eq_iff_iff]
    simp
  | .op w a b, .ite c d f => by
    simp only [Sm.enc, PyData.eqv, PyData.eqvAll, Bool.and_false]
    simp
  | .ite a b c, .num i => rfl
  | .ite a b c, .nm x => rfl
  | .ite a b c, .op w d f => by
    simp only [Sm.enc, PyData.eqv, PyData.eqvAll, Bool.and_false]
    simp
  | .ite a b c, .ite d f g => by
    have h1 := eqv_sm a d
    have h2 := eqv_sm b f
    have h3 := eqv_sm c g
    have e : PyData.eqv (Sm.ite a b c).enc (Sm.ite d f g).enc = ((("if" : Str) == "if") && (PyData.eqv a.enc d.enc && (PyData.eqv b.enc f.enc && (PyData.eqv c.enc g.enc && true)))) := by
      simp only [Sm.enc, PyData.eqv, PyData.eqvAll]
    rw [e, h1, h2, h3, Bool.eq_iff_iff]
    simp
end
theorem eqv_rw : ∀ (a b : Rw), PyData.eqv a.enc b.enc = decide (a = b)
  | .set x s, .set y t => by
    have e : PyData.eqv (Rw.set x s).enc (Rw.set y t).enc = ((("set" : Str) == "set") && ((x == y) && (PyData.eqv s.enc t.enc && true))) := by
      simp only [Rw.enc, PyData.eqv, PyData.eqvAll]
    rw [e, eqv_sm, Bool.eq_iff_iff]
    simp
  | .set x s, .shw t => by
    have h : (("set" : Str) == ("show" : Str)) = false := by decide +kernel
    have e : PyData.eqv (Rw.set x s).enc (Rw.shw t).enc = ((("set" : Str) == ("show" : Str)) && PyData.eqvAll [.str x, s.enc] [t.enc]) := rfl
    rw [e, h, Bool.false_and]
    simp
  | .shw s, .set y t => by
    have h : (("show" : Str) == ("set" : Str)) = false := by decide +kernel
    have e : PyData.eqv (Rw.shw s).enc (Rw.set y t).enc = ((("show" : Str) == ("set" : Str)) && PyData.eqvAll [s.enc] [.str y, t.enc]) := rfl
    rw [e, h, Bool.false_and]
    simp
  | .shw s, .shw t => by
    have e : PyData.eqv (Rw.shw s).enc (Rw.shw t).enc = ((("show" : Str) == "show") && (PyData.eqv s.enc t.enc && true)) := by
      simp only [Rw.enc, PyData.eqv, PyData.eqvAll]
    rw [e, eqv_sm, Bool.eq_iff_iff]
    simp
theorem eqvAll_rw : ∀ (a b : List Rw), PyData.eqvAll (a.map Rw.enc) (b.map Rw.enc) = decide (a = b)
  | [], [] => rfl
  | [], _ :: _ => rfl
  | _ :: _, [] => rfl
  | x :: a, y :: b => by
    have e : PyData.eqvAll ((x :: a).map Rw.enc) ((y :: b).map Rw.enc) = (PyData.eqv x.enc y.enc && PyData.eqvAll (a.map Rw.enc) (b.map Rw.enc)) := by
      simp only [List.map_cons, PyData.eqvAll]
    rw [e, eqv_rw, eqvAll_rw a b, Bool.eq_iff_iff]
    simp
theorem eqv_src {a b : Src} (ha : goodS a = true) (hb : goodS b = true) : PyData.eqv (encS a) (encS b) = decide (a = b) := by
  show PyData.eqv (.tuple (a.map Rw.enc)) (.tuple (b.map Rw.enc)) = _
  simp only [PyData.eqv]
  exact eqvAll_rw a b
/-! ### promises of the run -/
structure Sit (st : NbS) : Prop where
  G : NbG st
  V : RecV st
def spDem (K : Frag) (T : NbC) (TT : List NTab) (i : Nat) : Sp := fun vs H Q _ => ∃ (st : NbS) (M : Addr → Prop) (B : Hp) (nb gd rn : Addr) (g : List Nat) (n : Nat), vs = [.ref nb, .int (n : Int), .ref gd, .ref rn] ∧ RS K T TT st M B H nb gd rn g ∧ Sit st ∧ n ∈ st.row ∧ st.row.idxOf n < i ∧
  ∀ H' B' M', Fr M M' B H H' B' → RS K T TT st M' B' H' nb gd rn (visit st i n g) → Q .non H'
def spTold (K : Frag) (T : NbC) (TT : List NTab) (i : Nat) : Sp := fun vs H Q _ => ∃ (st : NbS) (M : Addr → Prop) (B : Hp) (nb gd rn : Addr) (g : List Nat) (n : Nat) (x : Str), vs = [.ref nb, .int (n : Int), .str x, .ref gd, .ref rn] ∧ RS K T TT st M B H nb gd rn g ∧ Sit st ∧ n ∈ st.row ∧ st.row.idxOf n ≤ i ∧
  ∀ H' B' M', Fr M M' B H H' B' → RS K T TT st M' B' H' nb gd rn (visName st i n x g) → Q (encOV (knownAt st n x)) H'
def spStands (K : Frag) (T : NbC) (TT : List NTab) (i : Nat) : Sp := fun vs H Q _ => ∃ (st : NbS) (M : Addr → Prop) (B : Hp) (nb gd rn : Addr) (g : List Nat) (n : Nat), vs = [.ref nb, .int (n : Int), .ref gd, .ref rn] ∧ RS K T TT st M B H nb gd rn g ∧ Sit st ∧ n ∈ st.row ∧ n ∉ g ∧ st.row.idxOf n ≤ i ∧
  ∀ H' B' M', Fr M M' B H H' B' → RS K T TT st M' B' H' nb gd rn (standB st (visName st i n) n g).2 → Q (.bl (standB st (visName st i n) n g).1) H'
theorem visit_self (st : NbS) {k n : Nat} {g : List Nat} (h : 0 < k) : n ∈ visit st k n g := by
  cases k with
  | zero => omega
  | succ k =>
    rw [visit_succ]
    split
    · assumption
    · simp
theorem vis_known {st : NbS} (G : NbG st) {k n : Nat} {g : List Nat} {x : Str} (hi : st.row.idxOf n ≤ k) : lastT (mix st (visName st k n x g)) (setterF st n x) x = knownAt st n x := by
  rw [known_setter G.nd]
  unfold visName
  cases h : setterF st n x with
  | none => rfl
  | some m =>
    have hm := setter_mem G.nd h
    show (match ((mix st (visit st k m g)).cell m).recd with | none => none | some r => r.sets.lookup x) = _
    rw [mix_rec_in (visit_self st (by omega))]
section
variable {K : Frag} {T : NbC} {TT : List NTab} {st : NbS} {M : Addr → Prop} {B H : Hp} {nb gd rn : Addr} {g ds : List Nat} {σ : L2.St} {D : Ends} {i j : Nat} {ta : TE} {targs : TA} {m : Str} {E : L2.St → XK} {d : PyData} {ps : List PyData}
/-- a look at a notebook that is being run -/
theorem RS.look {R : NbS → List PyData → (PyData ⊕ Addr) → Prop} (S : RS K T TT st M B H nb gd rn g) (hG : NbG st) (nf : NoF m) (hs : Ev ta σ H (.ref nb)) (ha : EvBs K targs σ B H ps) (hf : R (mix st g) ps (.inl d)) : EvB K (tMet T.N m (spNq K T R) E ta targs) σ B H d := by
  obtain ⟨Mn, h, _⟩ := S.nB
  exact evb_q nf hs h hG.mix ha hf
theorem eqv_encO (a b : Option Int) : PyData.eqv (encO a) (encO b) = decide (a = b) := by
  cases a with
  | none => cases b <;> rfl
  | some i =>
    cases b with
    | none => rfl
    | some j =>
      show (i == j) = decide (some i = some j)
      rw [Bool.eq_iff_iff]
      simp
theorem shaped_encO (a : Option Int) : SeqAt.shaped (encO a) = true := by cases a <;> rfl
theorem kGTup {X : Cx} {K : Frag} {es : List Expr} {k : Nat} {t : TGs} {n : Nat} {pos : Pos} (hK : X.K = K) (hc : X.calm = true) (h : PGs X es t) (hn : (assignEach es X.env).length = n := by rfl) (hst : (assignEach es X.env).findIdx? (·.1) = none := by rfl) : PG X (.Tuple es k pos) (gTup K n t) := by
  subst hK
  exact pg_tup hc h hn hst
/-- unpacking a pair -/
theorem g_pair {v : V} {d e : PyData} {Q : L2.St → Hp → Prop} {A : Hp} (h : Dt K A v (.tuple [d, e])) (x : Ex A H) (k : ∀ a b, Dt K A a d → Dt K A b e → Q ((σ.set i (some a)).set j (some b)) H) : gTup K 2 (gCons (gName i) (gCons (gName j) gNil)) v σ H Q := by
  obtain ⟨p, xs, rfl, hs, hall⟩ := dp_tup h
  obtain ⟨a, b, rfl, ha, hb⟩ := dts2 hall
  exact ⟨p, [a, b], rfl, ex_t x hs, rfl, a, [b], rfl, b, [], rfl, rfl, k a b ha hb⟩
end
end LC

namespace LC
open PySem PySem.Spec PyProof.Rows L2 Evl LamX NdefX
/-! ### names of pairs -/
theorem evd_lcP {K : Frag} {σ : L2.St} {H : Hp} {tl : TE} {j1 j2 : Nat} {vs : List Nat} {ps : Asked} (h : EvD K tl σ H (.list (ps.map encAsk))) (hz : ps.length ≤ 40000) (hw : ∀ x y, wipe (((wipe σ vs).set j1 (some x)).set j2 (some y)) vs = wipe σ vs) (hj : ∀ x y, (((wipe σ vs).set j1 (some x)).set j2 (some y))[j1]? = some (some x)) :
    EvD K (tLc (iSeq K tl) (gTup K 2 (gCons (gName j1) (gCons (gName j2) gNil))) tYes (tVar j1) vs) σ H (.list (ps.map fun q => PyData.str q.1)) := fun H1 e Q q => by
  refine .inl (h H1 e _ fun v H2 A gr hd => ?_)
  obtain ⟨a, xs, rfl, hs, hall⟩ := dp_lst hd
  refine ⟨a, rfl, ⟨xs, sq_of (gr.d2 _ _ hs)⟩, fun D hD => ?_⟩
  refine lc_list (K := K) (a := a) (xs := xs) (fun i H' => Acc K A H2 D ((ps.take i).map fun q => PyData.str q.1) H') (Acc.nil gr.d2 hD) (fun i H' _ p => sq_of (p.base _ _ hs)) (fun i x H' hi p => ?_) fun H' p => ?_
  · obtain ⟨d, hdi, hx⟩ := dpAll_of hall hi
    rw [List.getElem?_map] at hdi
    obtain ⟨pr, hpr, rfl⟩ := Option.map_eq_some_iff.mp hdi
    refine g_pair (K := K) (A := A) (d := .str pr.1) (e := encO pr.2) hx p.base fun u w du dw => ?_
    refine ⟨hw u w, ?_⟩
    have e1 : (ps.take (i + 1)).map (fun q => PyData.str q.1) = (ps.take i).map (fun q => PyData.str q.1) ++ [PyData.str pr.1] := by
      rw [List.take_add_one, hpr, List.map_append]
      rfl
    rw [e1]
    have key := lc_turn (b := true) (tt := tYes) (te := tVar j1) (σ2 := ((wipe σ vs).set j1 (some u)).set j2 (some w)) gr.d2 hD p (by rw [List.length_map, List.length_take]; omega) (fun H1 _ _ q => q H1 (Ex.refl H1)) (fun _ => evd_var (K := K) du (hj u w))
    exact key
  · have p2 : Acc K A H2 D ((ps.take xs.length).map fun q => PyData.str q.1) H' := p
    have hl := dpAll_len hall
    rw [List.length_map] at hl
    rw [hl, List.take_length] at p2
    obtain ⟨Hd, g1, g2⟩ := p2.done gr.xd gr.fr gr.ex hD
    exact q _ H' Hd g1 g2
/-! ### what a cell has asked for so far -/
structure AK (K : Frag) (T : NbC) (TT : List NTab) (st : NbS) (M : Addr → Prop) (B H : Hp) (nb gd rn pa : Addr) (g : List Nat) (as : Asked) : Prop where
  R : ∃ Mi : Addr → Prop, RS K T TT st Mi B H nb gd rn g ∧ (∀ a, M a ↔ Mi a ∨ a = pa) ∧ ¬ Mi pa
  pa : ∃ xs, H pa = some (.lst xs) ∧ DtAll K B xs (as.map encAsk) ∧ B pa = none
section
variable {K : Frag} {T : NbC} {TT : List NTab} {st : NbS} {M M' Mi Mi' : Addr → Prop} {B B' H H' : Hp} {nb gd rn pa p : Addr} {g g' : List Nat} {as : Asked} {o : HO}
theorem AK.x (A : AK K T TT st M B H nb gd rn pa g as) : Ex B H := by
  obtain ⟨Mi, R, _⟩ := A.R
  exact R.x
theorem AK.m (A : AK K T TT st M B H nb gd rn pa g as) : ∀ a, M a → B a = none ∧ H a ≠ none := fun a ha => by
  obtain ⟨Mi, R, h, _⟩ := A.R
  obtain ⟨xs, h1, _, h3⟩ := A.pa
  rcases (h a).mp ha with z | z
  · exact R.m a z
  · rw [z]
    exact ⟨h3, by rw [h1]; exact fun z => nomatch z⟩
theorem AK.gr (A : AK K T TT st M B H nb gd rn pa g as) (e : Gr B H H' B') : AK K T TT st M B' H' nb gd rn pa g as := by
  obtain ⟨Mi, R, h, n⟩ := A.R
  obtain ⟨xs, h1, h2, h3⟩ := A.pa
  exact ⟨⟨Mi, R.gr e, h, n⟩, xs, e.ex _ _ h1, dpAll_ex e.xd _ _ h2, e.fr pa h3 (by rw [h1]; exact fun z => nomatch z)⟩
theorem AK.ex (A : AK K T TT st M B H nb gd rn pa g as) (e : Ex H H') : AK K T TT st M B H' nb gd rn pa g as := A.gr (Gr.base A.x e)
theorem Fr.wide (f : Fr Mi Mi' B H H' B') (h : ∀ a, M a ↔ Mi a ∨ a = pa) : Fr M (fun a => Mi' a ∨ a = pa) B H H' B' :=
  ⟨fun a o e n => f.fr a o e fun z => n ((h a).mpr (.inl z)), f.xd, f.d2, f.nw, fun a z => by
    rcases z with z | z
    · rcases f.mm a z with w | w
      · exact .inl ((h a).mpr (.inl w))
      · exact .inr w
    · exact .inl ((h a).mpr (.inr z)), fun a z => ((h a).mp z).imp (f.sub a) id, f.stay⟩
/-- the notebook was run on: what was asked for stays -/
theorem AK.on (A : AK K T TT st M B H nb gd rn pa g as) (h : ∀ a, M a ↔ Mi a ∨ a = pa) (n : ¬ Mi pa) (f : Fr Mi Mi' B H H' B') (R' : RS K T TT st Mi' B' H' nb gd rn g') : AK K T TT st (fun a => Mi' a ∨ a = pa) B' H' nb gd rn pa g' as := by
  obtain ⟨xs, h1, h2, h3⟩ := A.pa
  have hn : H pa ≠ none := by rw [h1]; exact fun z => nomatch z
  refine ⟨⟨Mi', R', fun a => Iff.rfl, fun z => ?_⟩, xs, f.fr pa _ h1 n, dpAll_ex f.xd _ _ h2, f.nw pa h3 hn⟩
  rcases f.mm pa z with w | w
  · exact n w
  · exact hn w
theorem AK.out (A : AK K T TT st M B H nb gd rn pa g as) (hb : B p = none) (hm : ¬ M p) (hp : Plain (H p)) (u : HO) : AK K T TT st M B (upd H p u) nb gd rn pa g as := by
  obtain ⟨Mi, R, h, n⟩ := A.R
  obtain ⟨xs, h1, h2, h3⟩ := A.pa
  have ne : pa ≠ p := fun z => hm ((h p).mpr (.inr z.symm))
  exact ⟨⟨Mi, R.out hb (fun z => hm ((h p).mpr (.inl z))) hp u, h, n⟩, xs, by rw [upd_ne ne]; exact h1, h2, h3⟩
theorem AK.more (A : AK K T TT st M B H nb gd rn pa g as) (x : Ex B B') (x' : Ex B' H) (m : ∀ a, M a → B' a = none) (bn : B' nb = none) (kc : ∀ c, Told TT H c → B' c = none) : AK K T TT st M B' H nb gd rn pa g as := by
  obtain ⟨Mi, R, h, n⟩ := A.R
  obtain ⟨xs, h1, h2, h3⟩ := A.pa
  exact ⟨⟨Mi, R.more x x' (fun a ha => m a ((h a).mpr (.inl ha))) bn kc, h, n⟩, xs, h1, dpAll_ex x _ _ h2, m pa ((h pa).mpr (.inr rfl))⟩
/-- asked.append((name, found)) -/
theorem AK.push {t : V} {x : Str} {v : Option Int} {xs : List V} (A : AK K T TT st M B H nb gd rn pa g as) (h0 : H pa = some (.lst xs)) (hd : DtAll K B xs (as.map encAsk)) (ht : Dt K B t (encAsk (x, v))) : AK K T TT st M B (upd H pa (.lst (xs ++ [t]))) nb gd rn pa g (as ++ [(x, v)]) ∧ Fr M M B H (upd H pa (.lst (xs ++ [t]))) B := by
  obtain ⟨Mi, R, h, n⟩ := A.R
  obtain ⟨_, _, _, h3⟩ := A.pa
  have Mp : M pa := (h pa).mpr (.inr rfl)
  refine ⟨⟨⟨Mi, R.out h3 n (.inr ⟨_, h0⟩) _, h, n⟩, xs ++ [t], upd_same, ?_, h3⟩, fr_upd A.x Mp h3 (by rw [h0]; exact fun z => nomatch z)⟩
  rw [List.map_append]
  exact dpAll_app hd (.cons ht .nil)
end
/-! ### the promise of ask -/
def spAsk (K : Frag) (C : Addr) (T : NbC) (TT : List NTab) (i : Nat) : List V → Sp := fun ws vs H Q E => ∃ (st : NbS) (M : Addr → Prop) (B : Hp) (nb gd rn pa : Addr) (g : List Nat) (as : Asked) (n : Nat) (x : Str), ws = [.ref nb, .int (n : Int), .ref pa, .ref gd, .ref rn] ∧ vs = [.str x] ∧ AK K T TT st M B H nb gd rn pa g as ∧ Sit st ∧ n ∈ st.row ∧ st.row.idxOf n ≤ i ∧ nameS x = true ∧ as.length ≤ 20000 ∧
  (∀ v, knownAt st n x = some v → ∀ H' B' M', Fr M M' B H H' B' → AK K T TT st M' B' H' nb gd rn pa (visName st i n x g) (noteA as x (knownAt st n x)) → Q (.int v) H') ∧
  (knownAt st n x = none → ∀ d tv H' B' M', Fr M M' B H H' B' → AK K T TT st M' B' H' nb gd rn pa (visName st i n x g) (noteA as x (knownAt st n x)) → H d = none → ¬ M' d → B' d = none → H' d = some (.xd [("why", tv)]) → Dt K B' tv (encWhy (some ("lacks", some x))) → E (.ref C) (some d) H')
theorem in_asked (x : Str) (as : Asked) : inD (.str x) (as.map fun q => PyData.str q.1) = decide (x ∈ as.map (·.1)) := by
  have := inD_str (s := x) (l := as.map (·.1))
  rw [List.map_map] at this
  exact this
theorem flat_asked (as : Asked) : (as.map fun q => PyData.str q.1).all flatD = true := by
  have := flat_strs (as.map (·.1))
  rw [List.map_map] at this
  exact this
end LC

namespace LC
open PySem PySem.Spec PyProof.Rows L2 Evl LamX NdefX
/-! ### a record -/
def spRecI (K : Frag) (T : NbC) : Sp := fun vs H Q _ => ∃ x dx lv av t sv dv wv, vs = [.ref x, lv, av, .ref t] ∧ H x = some (.ins T.R dx []) ∧ SqT K H t [sv, dv, wv] ∧ t ≠ x ∧ ∀ H', H' x = some (.ins T.R dx [("lines", lv), ("asked", av), ("shown", sv), ("sets", dv), ("why", wv)]) → (∀ a o, a ≠ x → H a = some o → H' a = some o) → Q .non H'
/-! ### visited cells -/
section
variable {st : NbS}
/-- who is visited stands no further behind -/
theorem visit_sub (nd : st.row.Nodup) : ∀ (k n : Nat) (g : List Nat), n ∈ st.row → ∀ m ∈ visit st k n g, m ∈ g ∨ (m ∈ st.row ∧ st.row.idxOf m ≤ st.row.idxOf n)
  | 0, n, g, _, m, h => .inl h
  | k + 1, n, g, hn, m, h => by
    have hv : ∀ x g', (∀ m ∈ g', m ∈ g ∨ (m ∈ st.row ∧ st.row.idxOf m < st.row.idxOf n)) → ∀ m ∈ visName st k n x g', m ∈ g ∨ (m ∈ st.row ∧ st.row.idxOf m < st.row.idxOf n) := fun x g' hg m hm => by
      unfold visName at hm
      split at hm
      · exact hg m hm
      · rename_i p hp
        have h3 := setter_mem nd hp
        rcases visit_sub nd k p g' h3.1 m hm with z | z
        · exact hg m z
        · exact .inr ⟨z.1, by omega⟩
    have hs : ∀ m ∈ (standB st (visName st k n) n g).2, m ∈ g ∨ (m ∈ st.row ∧ st.row.idxOf m < st.row.idxOf n) := by
      have go : ∀ (as : Asked) (g' : List Nat), (∀ m ∈ g', m ∈ g ∨ (m ∈ st.row ∧ st.row.idxOf m < st.row.idxOf n)) → ∀ m ∈ (standGo (visName st k n) (knownAt st n) as g').2, m ∈ g ∨ (m ∈ st.row ∧ st.row.idxOf m < st.row.idxOf n) := by
        intro as
        induction as with
        | nil => exact fun g' h => h
        | cons q r ih =>
          intro g' hg
          obtain ⟨x, v⟩ := q
          unfold standGo
          split
          · exact ih _ (hv x g' hg)
          · exact hv x g' hg
      unfold standB
      split
      · exact fun m h => .inl h
      · split
        · exact go _ _ fun m h => .inl h
        · exact fun m h => .inl h
    rw [visit_succ] at h
    split at h
    · exact .inl h
    · rcases List.mem_append.mp h with h | h
      · have key : m ∈ g ∨ (m ∈ st.row ∧ st.row.idxOf m < st.row.idxOf n) := by
          split at h
          · exact hs m h
          · exact doneM_inv (step := stepG (visName st k n) (knownAt st n)) (fun s => ∀ m ∈ s.1, m ∈ g ∨ (m ∈ st.row ∧ st.row.idxOf m < st.row.idxOf n)) (fun s x hP => hv x s.1 hP) (st.cell n).src [] [] ((standB st (visName st k n) n g).2, []) hs m h
        rcases key with z | z
        · exact .inl z
        · exact .inr ⟨z.1, by omega⟩
      · rw [List.mem_singleton.mp h]
        exact .inr ⟨hn, Nat.le_refl _⟩
end
/-! ### the closure ask, as what done may call -/
def askFr : List Str := ["self", "number", "asked", "good", "ran"]
structure JA (K : Frag) (T : NbC) (TT : List NTab) (mk : NF → Prop) (st : NbS) (nb gd rn pa fa : Addr) (n : Nat) (s : List Nat × Asked) (M : Addr → Prop) (B H : Hp) : Prop where
  A : AK K T TT st M B H nb gd rn pa s.1 s.2
  clo : ∃ F, mk F ∧ CloAt H fa F askFr [.ref nb, .int (n : Int), .ref pa, .ref gd, .ref rn] ∧ (∀ a, (a = fa ∨ a = F.c ∨ NF.isC F a) → ¬ M a ∧ B a = none)
  nm : (s.2.map (·.1)).Nodup
  sub : ∀ x ∈ s.2.map (·.1), x ∈ (st.cell n).src.flatMap fun r => r.sum.names
section
variable {K : Frag} {C : Addr} {T : NbC} {TT : List NTab} {st : NbS} {M M' Mi Mn : Addr → Prop} {B B' H H' : Hp} {nb gd rn pa fa p : Addr} {g : List Nat} {as : Asked} {mk : NF → Prop} {n i : Nat} {s : List Nat × Asked} {Cc : Addr → Prop}
theorem relV_ex : ∀ v : V, ∃ u, RelV v u := by
  intro v
  cases v <;> first | exact ⟨_, rfl⟩ | exact ⟨_, 0, rfl⟩ | exact ⟨_, _, rfl⟩
theorem cell_heap (c : Addr) (u : Value) : ∃ h0 : Heap, h0.get? c = some { cls := .none, data := .cell (some u) } := by
  let h0 : Heap := { objs := Array.replicate (c + 1) { cls := .none, data := .cell (some u) } }
  refine ⟨h0, ?_⟩
  have e : h0.objs[c]? = some { cls := .none, data := .cell (some u) } := by simp [h0]
  unfold Heap.get?
  rw [e]
theorem cellO_code {c : Addr} {v : V} {q : Str} : CellO c v ≠ CodeO c q := by
  intro z
  unfold CellO CodeO at z
  injection z with z
  obtain ⟨u, hu⟩ := relV_ex v
  obtain ⟨h0, hg⟩ := cell_heap c u
  obtain ⟨oc, vs, t, e1, e2, _⟩ := (congrFun z h0).mp ⟨u, hu, _, hg, rfl⟩
  rw [hg] at e1
  cases e1
  cases e2
theorem cellO_fn {c : Addr} {v : V} {F : NF} : CellO c v ≠ FnO c F := by
  intro z
  unfold CellO FnO at z
  injection z with z
  obtain ⟨u, hu⟩ := relV_ex v
  obtain ⟨h0, hg⟩ := cell_heap c u
  obtain ⟨od, sl, doc, pm, ctv, e1⟩ := (congrFun z h0).mp ⟨u, hu, _, hg, rfl⟩
  rw [hg] at e1
  cases e1
theorem code_not {c : Addr} {q : Str} (hc : AreC Cc H) (z : Cc c) (e : H c = some (CodeO c q)) : False := by
  obtain ⟨v, h⟩ := hc c z
  rw [h] at e
  exact cellO_code (Option.some.inj e)
theorem cellO_not {c : Addr} {v : V} : (∀ C dx fs, CellO c v ≠ .ins C dx fs) ∧ (∀ k, CellO c v ≠ .dK k) ∧ (∀ l, CellO c v ≠ .lst l) := by
  refine ⟨fun C dx fs z => ?_, fun k z => ?_, fun l z => ?_⟩ <;> (unfold CellO at z; cases z)
theorem NB.not_cell (h : NB K T Mn B H nb st) (hc : AreC Cc H) : ¬ Cc nb := by
  obtain ⟨dn, c, r, kvs, ad, L⟩ := h
  exact hc.not L.hn fun c v => cellO_not.1 _ _ _
/-- what is hidden is none of the notebook's -/
theorem NB.hide (h : NB K T Mn B H nb st) (hb : ∀ a, Cc a → B a = none) (hm : ∀ a, Mn a → ¬ Cc a) : NB K T Mn B (LC.hide Cc H) nb st := by
  obtain ⟨dn, c, r, kvs, ad, L⟩ := h
  have go : ∀ a o, Mn a → H a = some o → LC.hide Cc H a = some o := fun a o m e => by rw [hide_out (hm a m)]; exact e
  exact ⟨dn, c, r, kvs, ad, fun a o e => by
    rw [hide_out (fun z => by rw [hb a z] at e; cases e)]
    exact L.x _ _ e, fun a m => ⟨(L.m a m).1, by rw [hide_out (hm a m)]; exact (L.m a m).2⟩, go _ _ L.mn L.hn, go _ _ L.mc L.hc, go _ _ L.mr L.hr, L.mn, L.mc, L.mr, L.kin, L.kout, L.kl, L.mad, fun k hk => (L.cells k hk).mono (Ex.refl _) fun o => go _ _ (L.mad k hk), L.inj⟩
theorem NB.back (h : NB K T Mn B' H' nb st) (hb : ∀ a, Cc a → H' a = none) : NB K T Mn B' (LC.back Cc H H') nb st := by
  obtain ⟨dn, c, r, kvs, ad, L⟩ := h
  have ex : Ex H' (LC.back Cc H H') := fun a o e => by
    rw [back_out (fun z => by rw [hb a z] at e; cases e)]
    exact e
  exact NB.ex ⟨dn, c, r, kvs, ad, L⟩ ex
theorem ex_back (hb : ∀ a, Cc a → H' a = none) : Ex H' (LC.back Cc H H') := fun a o e => by
  rw [back_out (fun z => by rw [hb a z] at e; cases e)]
  exact e
theorem RS.hide (R : RS K T TT st M B H nb gd rn g) (hb : ∀ a, Cc a → B a = none) (hm : ∀ a, M a → ¬ Cc a) (hc : AreC Cc H) : RS K T TT st M B (LC.hide Cc H) nb gd rn g := by
  obtain ⟨Mn, h, h1, h2, h3, h4⟩ := R.nB
  refine ⟨⟨Mn, h.hide hb fun a ha => (h1 a ha).elim (hm a) fun w z => h.not_cell hc (by rw [← w]; exact z), h1, h2, h3, h4⟩, fun a ha => ⟨(R.m a ha).1, by rw [hide_out (hm a ha)]; exact (R.m a ha).2⟩, by rw [hide_out (hm _ R.mg)]; exact R.hg, by rw [hide_out (hm _ R.mr)]; exact R.hr, R.mg, R.mr, fun q hq => ?_, R.tm, R.nd, R.sub, fun c hc => R.kd c (told_ex R.tb (fun q hq o h => by rw [hide_out (hm _ (R.tm q hq))]; exact h) hc)⟩
  obtain ⟨ps, a1, a2, a3⟩ := R.tb q hq
  refine ⟨ps, by rw [hide_out (hm _ (R.tm q hq))]; exact a1, a2, fun pos cv hcv => ?_⟩
  obtain ⟨c, b1, b2⟩ := a3 pos cv hcv
  exact ⟨c, b1, by rw [hide_out (fun z => code_not hc z b2)]; exact b2⟩
theorem AK.hide (A : AK K T TT st M B H nb gd rn pa g as) (hb : ∀ a, Cc a → B a = none) (hm : ∀ a, M a → ¬ Cc a) (hc : AreC Cc H) : AK K T TT st M B (LC.hide Cc H) nb gd rn pa g as := by
  obtain ⟨Mi, R, h, n⟩ := A.R
  obtain ⟨xs, h1, h2, h3⟩ := A.pa
  exact ⟨⟨Mi, R.hide hb (fun a ha => hm a ((h a).mpr (.inl ha))) hc, h, n⟩, xs, by rw [hide_out (hm pa ((h pa).mpr (.inr rfl)))]; exact h1, h2, h3⟩
/-- from the hidden heap back -/
theorem Fr.back (f : Fr M M' B (LC.hide Cc H) H' B') (hn : ∀ a, Cc a → H' a = none) (hM : ∀ a, M' a → H' a ≠ none) (hc : ∀ a, Cc a → H a ≠ none) : Fr M M' B H (LC.back Cc H H') B' := by
  refine ⟨fun a o e n => ?_, f.xd, f.d2.trans (ex_back hn), fun a b h => ?_, fun a z => ?_, f.sub, fun a h => ?_⟩
  · by_cases z : Cc a
    · rw [back_in z]; exact e
    · rw [back_out z]
      exact f.fr a o (by rw [hide_out z]; exact e) n
  · by_cases z : Cc a
    · exact fresh_back f.d2 (hn a z)
    · exact f.nw a b (by rw [hide_out z]; exact h)
  · rcases f.mm a z with w | w
    · exact .inl w
    · by_cases q : Cc a
      · exact absurd (hn a q) (hM a z)
      · rw [hide_out q] at w
        exact .inr w
  · by_cases z : Cc a
    · rw [back_in z]; exact h
    · rw [back_out z]
      exact f.stay a (by rw [hide_out z]; exact h)
/-- a closure's own things are none of one's plain ones -/
theorem CloAt.nplain {fr : List Str} {ws : List V} {F : NF} (c : CloAt H fa F fr ws) {a : Addr} (h : a = fa ∨ a = F.c ∨ NF.isC F a) {o : HO} (e : H a = some o) (p : (∃ k, o = .dK k) ∨ (∃ l, o = .lst l) ∨ ∃ l, o = .tup l) : False := by
  have ext : ∃ φ, o = .ext φ := by
    rcases h with h | h | ⟨y, h⟩
    · rw [h, c.fn] at e
      exact ⟨_, (Option.some.inj e).symm⟩
    · rw [h, c.code] at e
      exact ⟨_, (Option.some.inj e).symm⟩
    · obtain ⟨v, e'⟩ := c.all y a h
      rw [e'] at e
      exact ⟨_, (Option.some.inj e).symm⟩
  obtain ⟨φ, rfl⟩ := ext
  rcases p with ⟨k, z⟩ | ⟨k, z⟩ | ⟨k, z⟩ <;> cases z
theorem CloAt.there {fr : List Str} {ws : List V} {F : NF} (c : CloAt H fa F fr ws) {a : Addr} (h : a = fa ∨ a = F.c ∨ NF.isC F a) : H a ≠ none := by
  rcases h with h | h | ⟨y, h⟩
  · rw [h, c.fn]; exact fun z => nomatch z
  · rw [h, c.code]; exact fun z => nomatch z
  · obtain ⟨v, e'⟩ := c.all y a h
    rw [e']; exact fun z => nomatch z
theorem CloAt.fnC {fr : List Str} {ws : List V} {F : NF} (c : CloAt H fa F fr ws) : ¬ NF.isC F fa := fun ⟨y, h⟩ => by
  obtain ⟨v, e⟩ := c.all y fa h
  rw [c.fn] at e
  exact cellO_fn (Option.some.inj e).symm
theorem CloAt.codeC {fr : List Str} {ws : List V} {F : NF} (c : CloAt H fa F fr ws) : ¬ NF.isC F F.c := fun ⟨y, h⟩ => by
  obtain ⟨v, e⟩ := c.all y F.c h
  rw [c.code] at e
  exact cellO_code (Option.some.inj e).symm
end
def srcNames (src : Src) : List Str := src.flatMap fun r => r.sum.names
theorem srcNames_len {src : Src} (h : goodS src = true) : (srcNames src).length ≤ 6000 := by
  have go : ∀ l : Src, (∀ r ∈ l, r.good = true) → (srcNames l).length ≤ 729 * l.length := by
    intro l
    induction l with
    | nil => exact fun _ => Nat.zero_le _
    | cons r l ih =>
      intro hg
      have h1 := ih fun r hr => hg r (List.mem_cons_of_mem _ hr)
      have h2 := (Rw.good_sum (hg r (List.mem_cons_self ..))).2
      have h3 := names_len r.sum
      have h4 : 3 ^ r.sum.depth ≤ 3 ^ 6 := Nat.pow_le_pow_right (by decide) h2
      show (r.sum.names ++ srcNames l).length ≤ 729 * (l.length + 1)
      rw [List.length_append]
      have : (3 : Nat) ^ 6 = 729 := by decide
      omega
  have h1 := go src fun r hr => goodS_row h hr
  have h2 := goodS_len h
  omega
theorem srcNames_good {src : Src} (h : goodS src = true) : ∀ x ∈ srcNames src, nameS x = true := fun x hx => by
  obtain ⟨r, hr, hx⟩ := List.mem_flatMap.mp hx
  exact names_good r.sum (Rw.good_sum (goodS_row h hr)).1 x hx
theorem noteA_names {as : Asked} {x : Str} {v : Option Int} (nd : (as.map (·.1)).Nodup) : ((noteA as x v).map (·.1)).Nodup := by
  unfold noteA
  split
  · exact nd
  · rename_i h
    rw [List.map_append, List.nodup_append]
    refine ⟨nd, by simp, fun a ha b hb => ?_⟩
    have : b = x := by simpa using hb
    rw [this]
    exact fun z => h (z ▸ ha)
theorem noteA_mem {as : Asked} {x y : Str} {v : Option Int} (h : y ∈ (noteA as x v).map (·.1)) : y ∈ as.map (·.1) ∨ y = x := by
  unfold noteA at h
  split at h
  · exact .inl h
  · rw [List.map_append] at h
    rcases List.mem_append.mp h with h | h
    · exact .inl h
    · exact .inr (by simpa using h)
theorem askSys {K : Frag} {C : Addr} {T : NbC} {TT : List NTab} {st : NbS} {nb gd rn pa fa : Addr} {mk : NF → Prop} {n i : Nat} (Sx : Sit st) (hn : n ∈ st.row) (hi : st.row.idxOf n ≤ i) : Asks K C mk askFr (spAsk K C T TT i) fa (List Nat × Asked) (JA K T TT mk st nb gd rn pa fa n) (stepG (visName st i n) (knownAt st n)) (srcNames (st.cell n).src) where
  x := fun j => j.A.x
  m := fun j => j.A.m
  gr := fun {s M B H B' H'} j g => by
    obtain ⟨F, h1, h2, h3⟩ := j.clo
    exact ⟨j.A.gr g, ⟨F, h1, h2.ex g.ex, fun a ha => ⟨(h3 a ha).1, g.fr a (h3 a ha).2 (h2.there ha)⟩⟩, j.nm, j.sub⟩
  out := fun {s M B H p} j hb hm hp o => by
    obtain ⟨F, h1, h2, h3⟩ := j.clo
    refine ⟨j.A.out hb hm hp o, ⟨F, h1, h2.stay fun a u ha e => ?_, h3⟩, j.nm, j.sub⟩
    rw [upd_ne fun z => ?_]
    · exact e
    · rw [z] at ha e
      rcases hp with ⟨k, hk⟩ | ⟨k, hk⟩
      · exact h2.nplain ha hk (.inl ⟨k, rfl⟩)
      · exact h2.nplain ha hk (.inr (.inl ⟨k, rfl⟩))
  add := fun {s M B H p o} j hb hm hp ho => by
    obtain ⟨F, h1, h2, h3⟩ := j.clo
    have x' : Ex (upd B p o) H := fun a u e => by
      by_cases z : a = p
      · rw [z, upd_same] at e
        cases e
        rw [z]
        exact hp
      · rw [upd_ne z] at e
        exact j.A.x _ _ e
    obtain ⟨Mi, R0, _⟩ := j.A.R
    refine ⟨j.A.more (Ex.new hb) x' (fun a ha => by rw [upd_ne fun z => hm (by rw [← z]; exact ha)]; exact (j.A.m a ha).1) (R0.bn_upd hp ho) (fun c hc => by
      obtain ⟨q, hq⟩ := told_code R0.tb hc
      rw [upd_ne fun z => by
        rw [z, hp] at hq
        cases hq
        rcases ho with ⟨k, z⟩ | ⟨k, z⟩ | ⟨k, z⟩ <;> cases z]
      exact (R0.kd c hc).2), ⟨F, h1, h2, fun a ha => ⟨(h3 a ha).1, ?_⟩⟩, j.nm, j.sub⟩
    rw [upd_ne fun z => ?_]
    · exact (h3 a ha).2
    · rw [z] at ha
      exact h2.nplain ha hp ho
  rng := fun {s x k s1} h => by
    injection h with h1 h2
    exact known_in Sx.G h1
  call := fun {s M B H x Q E} j hx hk1 hk2 => by
    obtain ⟨F, h1, h2, h3⟩ := j.clo
    have hg := Sx.G.good n hn
    have aC := h2.areC
    have hbC : ∀ a, NF.isC F a → B a = none := fun a ha => (h3 a (.inr (.inr ha))).2
    have hmC : ∀ a, M a → ¬ NF.isC F a := fun a ha z => (h3 a (.inr (.inr z))).1 ha
    have hcH : ∀ a, NF.isC F a → H a ≠ none := fun a ha => h2.there (.inr (.inr ha))
    have hlen : s.2.length ≤ 20000 := by
      have q := nodup_len j.nm j.sub
      rw [List.length_map] at q
      exact Nat.le_trans q (Nat.le_trans (srcNames_len hg) (by decide))
    have step : stepG (visName st i n) (knownAt st n) s x = (knownAt st n x, (visName st i n x s.1, noteA s.2 x (knownAt st n x))) := rfl
    have back : ∀ {H' B' M'}, (∀ c, NF.isC F c → H' c = none) → Fr M M' B (LC.hide (NF.isC F) H) H' B' → AK K T TT st M' B' H' nb gd rn pa (visName st i n x s.1) (noteA s.2 x (knownAt st n x)) →
        Fr M M' B H (LC.back (NF.isC F) H H') B' ∧ JA K T TT mk st nb gd rn pa fa n (visName st i n x s.1, noteA s.2 x (knownAt st n x)) M' B' (LC.back (NF.isC F) H H') := fun {H' B' M'} hnC f A' => by
      refine ⟨f.back hnC (fun a ha => (A'.m a ha).2) hcH, A'.ex (ex_back hnC), ⟨F, h1, h2.stay fun a o ha e => ?_, fun a ha => ?_⟩, noteA_names j.nm, fun y hy => ?_⟩
      · by_cases z : NF.isC F a
        · rw [back_in z]; exact e
        · rw [back_out z]
          exact f.fr a o (by rw [hide_out z]; exact e) (h3 a ha).1
      · by_cases z : NF.isC F a
        · exact ⟨fun m => (A'.m a m).2 (hnC a z), fresh_back A'.x (hnC a z)⟩
        · have hh : LC.hide (NF.isC F) H a ≠ none := by rw [hide_out z]; exact h2.there ha
          refine ⟨fun m => ?_, f.nw a (h3 a ha).2 hh⟩
          rcases f.mm a m with w | w
          · exact (h3 a ha).1 w
          · exact hh w
      · rcases noteA_mem hy with z | z
        · exact j.sub y z
        · rw [z]; exact hx
    refine ⟨F, _, h1, h2, st, M, B, nb, gd, rn, pa, s.1, s.2, n, x, rfl, rfl, j.A.hide hbC hmC aC, Sx, hn, hi, srcNames_good hg x hx, hlen, fun v hv H' B' M' f A' hnC => ?_, fun hv d tv H' B' M' f A' h0 hdM hdB hd dt hnC => ?_⟩
    · obtain ⟨b1, b2⟩ := back hnC f A'
      exact hk1 v _ (by rw [step, hv]) _ B' M' b1 (by rw [hv] at b2; exact b2)
    · obtain ⟨b1, b2⟩ := back hnC f A'
      have ncd : ¬ NF.isC F d := fun z => by rw [hnC d z] at hd; cases hd
      have h0' : H d = none := by rw [hide_out ncd] at h0; exact h0
      exact hk2 _ (by rw [step, hv]) d tv _ B' M' b1 (by rw [hv] at b2; exact b2) h0' hdM hdB (by rw [back_out ncd]; exact hd) dt
end LC

namespace LC
open PySem PySem.Spec PyProof.Rows L2 Evl LamX NdefX
section
variable {K : Frag} {T : NbC} {TT : List NTab} {st : NbS} {M M1 M' Mi Mn : Addr → Prop} {B B1 B' H H1 H3 H' : Hp} {nb gd rn pa p Pt : Addr} {g : List Nat} {n : Nat} {nm : Nat → Nat → Str}
theorem NB.on (h : NB K T Mn B H nb st) (go : ∀ a o, Mn a → H a = some o → H' a = some o) (x : Ex B H') : NB K T Mn B H' nb st := by
  obtain ⟨dn, c, r, kvs, ad, L⟩ := h
  refine ⟨dn, c, r, kvs, ad, x, fun a m => ⟨(L.m a m).1, ?_⟩, go _ _ L.mn L.hn, go _ _ L.mc L.hc, go _ _ L.mr L.hr, L.mn, L.mc, L.mr, L.kin, L.kout, L.kl, L.mad, fun k hk => (L.cells k hk).mono (Ex.refl _) fun o => go _ _ (L.mad k hk), L.inj⟩
  cases q : H a with
  | none => exact absurd q (L.m a m).2
  | some o => rw [go a o m q]; exact fun z => nomatch z
/-- a closure was made -/
theorem RS.kp (R : RS K T TT st M B H nb gd rn g) (hP : (Pt, nm) ∈ TT) (k : Kp Pt H H') (s : ∀ b, H' b = none → H b = none) (t : TabsN TT H') (tt : ToldTo TT H H') : RS K T TT st M B H' nb gd rn g ∧ Fr M M B H H' B := by
  obtain ⟨Mn, h, h1, h2, h3, h4⟩ := R.nB
  have mP := R.tm _ hP
  have bP := (R.m _ mP).1
  obtain ⟨ps, hps, _, _⟩ := R.tb _ hP
  have hps : H Pt = some (.tbl ps) := hps
  have ng : gd ≠ Pt := ne_of R.hg hps fun z => by cases z
  have nr : rn ≠ Pt := ne_of R.hr hps fun z => by cases z
  have x' : Ex B H' := fun a o e => k a o (fun z => by rw [z, bP] at e; cases e) (R.x _ _ e)
  have st' : ∀ a, H a ≠ none → H' a ≠ none := fun a e z => e (s a z)
  refine ⟨⟨⟨Mn, h.on (fun a o m e => k a o (fun z => h4 _ hP (by rw [← z]; exact m)) e) x', h1, h2, h3, h4⟩, fun a ha => ⟨(R.m a ha).1, st' a (R.m a ha).2⟩, k _ _ ng R.hg, k _ _ nr R.hr, R.mg, R.mr, t, R.tm, R.nd, R.sub, fun c hc => ?_⟩, fun a o e n => k a o (fun z => n (by rw [z]; exact mP)) e, Ex.refl _, x', fun a b _ => b, fun a m => .inl m, fun a m => m, st'⟩
  rcases tt c hc with z | z
  · exact R.kd c z
  · exact ⟨fun m => (R.m c m).2 z, fresh_back R.x z⟩
/-- what a run changed, apart from the list of the names asked for -/
theorem Fr.narrow (f0 : Fr M1 M1 B1 H1 H3 B1) (f : Fr (fun a => M1 a ∨ a = pa) M' B1 H3 H' B') (hp : H1 pa = none) (h : ∀ a, M' a ↔ Mi a ∨ a = pa) (n : ¬ Mi pa) (m1 : ¬ M1 pa) : Fr M1 Mi B1 H1 H' B' := by
  refine ⟨fun a o e na => f.fr a o (f0.fr a o e na) fun z => ?_, f.xd, f.d2, fun a b e => f.nw a b (f0.stay a e), fun a z => ?_, fun a z => ?_, fun a e => f.stay a (f0.stay a e)⟩
  · rcases z with z | z
    · exact na z
    · rw [z, hp] at e; cases e
  · rcases f.mm a ((h a).mpr (.inl z)) with w | w
    · rcases w with w | w
      · exact .inl w
      · exact absurd (w ▸ z) n
    · right
      cases q : H1 a with
      | none => rfl
      | some o => exact absurd w (f0.stay a (by rw [q]; exact fun z => nomatch z))
  · rcases (h a).mp (f.sub a (.inl z)) with w | w
    · exact w
    · exact absurd (w ▸ z) m1
end
/-! ### the cells made fresh -/
theorem val_good (n : Nat) : ∀ g : List Nat, (valV (g.map fun m : Nat => ((Sum.inl (m : Int) : Key), V.bl true)) (.inl (n : Int))).isSome = decide (n ∈ g)
  | [] => rfl
  | m :: g => by
    have ih := val_good n g
    by_cases h : m = n
    · subst h
      rw [List.map_cons, valV_pos rfl]
      simp
    · rw [List.map_cons, valV_neg (fun z => h (by have := Sum.inl.inj z; omega)), ih]
      have h' : ¬ n = m := fun z => h z.symm
      simp [h']
theorem put_good {n : Nat} {g : List Nat} (h : n ∉ g) : putK (g.map fun m : Nat => ((Sum.inl (m : Int) : Key), V.bl true)) (.inl (n : Int)) (.bl true) = (g ++ [n]).map fun m : Nat => ((Sum.inl (m : Int) : Key), V.bl true) := by
  unfold putK
  rw [if_neg, List.map_append]
  · rfl
  · rw [List.any_map]
    simp only [Function.comp_def, List.any_eq_true, not_exists, not_and, decide_eq_true_eq]
    intro m hm z
    have := Sum.inl.inj z
    exact h (by have e : m = n := by omega
                rw [← e]; exact hm)
theorem mix_run {st : NbS} {g : List Nat} {n : Nat} (h : n ∉ g) : mix st (g ++ [n]) = setS (mix st g) n (recC (st.cell n) (pureRec st n)) := by
  unfold mix setS
  congr 1
  funext m
  dsimp only
  by_cases e : m = n
  · subst e
    rw [if_pos (by simp), if_pos rfl]
  · rw [if_neg e]
    by_cases hm : m ∈ g
    · rw [if_pos (List.mem_append_left _ hm), if_pos hm]
    · rw [if_neg hm, if_neg (by simp [hm, e])]
theorem mix_stand {st : NbS} {g : List Nat} {n : Nat} {r : RecS} (h : n ∉ g) (hr : (st.cell n).recd = some r) (hp : pureRec st n = r) : mix st (g ++ [n]) = mix st g := by
  rw [mix_run h]
  unfold setS mix
  congr 1
  funext m
  dsimp only
  by_cases e : m = n
  · subst e
    rw [if_pos rfl, if_neg h, hp]
    cases hc : st.cell m with
    | mk a b c d =>
      rw [hc] at hr
      dsimp only at hr
      subst hr
      rfl
  · rw [if_neg e]
section
variable {K : Frag} {T : NbC} {TT : List NTab} {st : NbS} {M : Addr → Prop} {B H H' : Hp} {nb gd rn : Addr} {g : List Nat} {n : Nat}
/-- good[number] = True, where the record stands -/
theorem RS.stand (R : RS K T TT st M B H nb gd rn g) (hn : n ∉ g) (hr : n ∈ st.row) (hs : standsB st n = true) (hm : mix st (g ++ [n]) = mix st g) : RS K T TT st M B (upd H gd (.dK ((g ++ [n]).map fun m : Nat => ((Sum.inl (m : Int) : Key), V.bl true)))) nb gd rn (g ++ [n]) ∧
    Fr M M B H (upd H gd (.dK ((g ++ [n]).map fun m : Nat => ((Sum.inl (m : Int) : Key), V.bl true)))) B := by
  obtain ⟨Mn, h, h1, h2, h3, h4⟩ := R.nB
  have bg := (R.m _ R.mg).1
  have pl : Plain (H gd) := .inl ⟨_, R.hg⟩
  have nt : ∀ q ∈ TT, q.1 ≠ gd := fun q hq z => by
    obtain ⟨ps, a1, _, _⟩ := R.tb q hq
    rw [z, R.hg] at a1
    cases a1
  refine ⟨⟨⟨Mn, by rw [hm]; exact h.elsewhere bg h2 _, h1, h2, h3, h4⟩, fun a ha => ⟨(R.m a ha).1, ?_⟩, upd_same, ?_, R.mg, R.mr, tabs_upd R.tb pl nt _, R.tm, ?_, fun m hm' => ?_, fun c hc => R.kd c (told_ex R.tb (fun q hq o e => by rw [upd_ne (nt q hq)]; exact e) hc)⟩, fr_upd R.x R.mg bg (by rw [R.hg]; exact fun z => nomatch z)⟩
  · by_cases z : a = gd
    · rw [z, upd_same]; exact fun z => nomatch z
    · rw [upd_ne z]; exact (R.m a ha).2
  · rw [upd_ne (ne_of R.hr R.hg fun z => by cases z), List.filter_append]
    rw [R.hr]
    simp [hs]
  · rw [List.nodup_append]
    exact ⟨R.nd, by simp, fun a ha b hb => by rw [List.mem_singleton.mp hb]; exact fun z => hn (z ▸ ha)⟩
  · rcases List.mem_append.mp hm' with z | z
    · exact R.sub m z
    · rw [List.mem_singleton.mp z]; exact hr
/-- a cell was run -/
theorem RS.ran {dn c r dx : Addr} {kvs : List (Key × V)} {ad : Nat → Addr} {Mn : Addr → Prop} {lv rv : V} (R : RS K T TT st M B H nb gd rn g) (hn : n ∉ g) (hr : n ∈ st.row) (hs : standsB st n = false) (L : NbL K T Mn B H nb (mix st g) dn c r kvs ad) (h1 : ∀ a, Mn a → M a ∨ a = nb) (h2 : ¬ Mn gd) (h3 : ¬ Mn rn) (h4 : ∀ p ∈ TT, ¬ Mn p.1)
    (hc : H' (ad n) = some (.ins T.C dx [("lines", lv), ("count", .int ((st.cell n).count : Int)), ("struck", .bl (st.cell n).struck), ("record", rv)])) (dl : Dt K B lv (encS (st.cell n).src)) (dr : RecAt K T B rv (some (pureRec st n))) (hR : H' rn = some (.lst (((g.filter fun m => !standsB st m).map fun m : Nat => V.int (m : Int)) ++ [V.int (n : Int)])))
    (hG : H' gd = some (.dK ((g ++ [n]).map fun m : Nat => ((Sum.inl (m : Int) : Key), V.bl true)))) (ho : ∀ a o, a ≠ ad n → a ≠ rn → a ≠ gd → H a = some o → H' a = some o) : RS K T TT st M B H' nb gd rn (g ++ [n]) ∧ Fr M M B H H' B := by
  have hn' : n ∈ (mix st g).row := hr
  have mA := L.mad n hn'
  have bA := (L.m _ mA).1
  have nbA : ad n ≠ nb := fun z => by
    obtain ⟨dx', lv', rv', w, _⟩ := L.cells n hn'
    rw [z, L.hn] at w
    injection w with w
    injection w with w1 w2 w3
    injection w3 with w4 w5
    injection w4 with w6 w7
    exact absurd w6 (by decide)
  have bg := (R.m _ R.mg).1
  have br := (R.m _ R.mr).1
  have x' : Ex B H' := fun a o e => ho a o (fun z => by rw [z, bA] at e; cases e) (fun z => by rw [z, br] at e; cases e) (fun z => by rw [z, bg] at e; cases e) (L.x _ _ e)
  have st' : ∀ a, H a ≠ none → H' a ≠ none := fun a e => by
    by_cases z1 : a = ad n
    · rw [z1, hc]; exact fun z => nomatch z
    by_cases z2 : a = rn
    · rw [z2, hR]; exact fun z => nomatch z
    by_cases z3 : a = gd
    · rw [z3, hG]; exact fun z => nomatch z
    cases q : H a with
    | none => exact absurd q e
    | some o => rw [ho a o z1 z2 z3 q]; exact fun z => nomatch z
  have ncount : ((recC (st.cell n) (pureRec st n)).count : Int) = ((st.cell n).count : Int) := rfl
  have key := L.setCell (H' := upd H (ad n) (.ins T.C dx [("lines", lv), ("count", .int ((st.cell n).count : Int)), ("struck", .bl (st.cell n).struck), ("record", rv)])) (cs := recC (st.cell n) (pureRec st n)) (lv := lv) (rv := rv) (dx := dx) hn' upd_same dl dr fun a o ha e => by rw [upd_ne ha]; exact e
  have nt : ∀ q ∈ TT, q.1 ≠ ad n ∧ q.1 ≠ rn ∧ q.1 ≠ gd := fun q hq => by
    obtain ⟨ps, a1, _, _⟩ := R.tb q hq
    refine ⟨fun z => h4 q hq (by rw [z]; exact mA), fun z => ?_, fun z => ?_⟩
    · rw [z, R.hr] at a1; cases a1
    · rw [z, R.hg] at a1; cases a1
  have tab : ∀ q ∈ TT, ∀ o, H q.1 = some o → H' q.1 = some o := fun q hq o e => ho _ o (nt q hq).1 (nt q hq).2.1 (nt q hq).2.2 e
  have nb2 : NB K T Mn B H' nb (mix st (g ++ [n])) := by
    rw [mix_run hn]
    refine key.2.toNB.on (fun a o m e => ?_) x'
    by_cases z : a = ad n
    · rw [z, upd_same] at e
      cases e
      rw [z]
      exact hc
    · rw [upd_ne z] at e
      exact ho a o z (fun w => h3 (by rw [← w]; exact m)) (fun w => h2 (by rw [← w]; exact m)) e
  refine ⟨⟨⟨Mn, nb2, h1, h2, h3, h4⟩, fun a ha => ⟨(R.m a ha).1, st' a (R.m a ha).2⟩, hG, ?_, R.mg, R.mr, fun q hq => ?_, R.tm, ?_, fun m hm' => ?_, fun c hc => R.kd c (told_ex R.tb tab hc)⟩, fun a o e na => ho a o (fun z => na (by rw [z]; exact (h1 _ mA).resolve_right nbA)) (fun z => na (by rw [z]; exact R.mr)) (fun z => na (by rw [z]; exact R.mg)) e, Ex.refl _, x', fun a b _ => b, fun a m => .inl m, fun a m => m, st'⟩
  · rw [hR, List.filter_append, List.map_append]
    simp [hs]
  · obtain ⟨ps, a1, a2, a3⟩ := R.tb q hq
    refine ⟨ps, tab q hq _ a1, a2, fun pos cv hcv => ?_⟩
    obtain ⟨c0, b1, b2⟩ := a3 pos cv hcv
    refine ⟨c0, b1, ho c0 _ (fun z => ?_) (fun z => ?_) (fun z => ?_) b2⟩
    · obtain ⟨dx', lv', rv', w, _⟩ := L.cells n hn'
      rw [z, w] at b2; cases b2
    · rw [z, R.hr] at b2; cases b2
    · rw [z, R.hg] at b2; cases b2
  · rw [List.nodup_append]
    exact ⟨R.nd, by simp, fun a ha b hb => by rw [List.mem_singleton.mp hb]; exact fun z => hn (z ▸ ha)⟩
  · rcases List.mem_append.mp hm' with z | z
    · exact R.sub m z
    · rw [List.mem_singleton.mp z]; exact hr
end
theorem sqT_upd {K : Frag} {H : Hp} {t x : Addr} {xs : List V} {o : HO} (h : SqT K H t xs) (n : t ≠ x) : SqT K (upd H x o) t xs := by
  rcases h with (h | ⟨ob, h⟩) | h
  · exact .inl (.inl (by rw [upd_ne n]; exact h))
  · exact .inl (.inr ⟨ob, by rw [upd_ne n]; exact h⟩)
  · exact .inr h
theorem ev_ixTup {K : Frag} {σ : L2.St} {H : Hp} {ta tb : TE} {t : Addr} {xs : List V} {v : V} {j : Nat} (h : Ev ta σ H (.ref t)) (hi : Ev tb σ H (.int (j : Int))) (hp : SqT K H t xs) (hx : xs[j]? = some v) : Ev (tOp (rIx K) ta tb) σ H v := fun H1 e Q q =>
  h H1 e _ fun H2 e2 => hi H2 (e.trans e2) _ fun H3 e3 => .inr (.inl ⟨t, xs, (j : Int), v, rfl, rfl, ex_t ((e.trans e2).trans e3) hp, atI_nat hx, q H3 (e2.trans e3)⟩)
theorem tt_not {K : Frag} {σ : L2.St} {H : Hp} {te : TE} {Q : Bool → Hp → Prop} (h : te σ H fun x H' => ∃ k, TruV K x H' k ∧ Q (!k) H') : tNot (tTrU K te) σ H Q := h
/-- a cell not yet visited is none of those visited for its names -/
theorem stand_sub {st : NbS} (nd : st.row.Nodup) {k n : Nat} {g : List Nat} (hn : n ∈ st.row) (hng : n ∉ g) : n ∉ (standB st (visName st k n) n g).2 ∧ n ∉ (doneM (stepG (visName st k n) (knownAt st n)) (st.cell n).src [] [] ((standB st (visName st k n) n g).2, [])).2.1 := by
  have hv : ∀ x g', (∀ m ∈ g', m ∈ g ∨ st.row.idxOf m < st.row.idxOf n) → ∀ m ∈ visName st k n x g', m ∈ g ∨ st.row.idxOf m < st.row.idxOf n := fun x g' hg m hm => by
    unfold visName at hm
    split at hm
    · exact hg m hm
    · rename_i p hp
      have h3 := setter_mem nd hp
      rcases visit_sub nd k p g' h3.1 m hm with z | z
      · exact hg m z
      · exact .inr (by omega)
  have hs : ∀ m ∈ (standB st (visName st k n) n g).2, m ∈ g ∨ st.row.idxOf m < st.row.idxOf n := by
    have go : ∀ (as : Asked) (g' : List Nat), (∀ m ∈ g', m ∈ g ∨ st.row.idxOf m < st.row.idxOf n) → ∀ m ∈ (standGo (visName st k n) (knownAt st n) as g').2, m ∈ g ∨ st.row.idxOf m < st.row.idxOf n := by
      intro as
      induction as with
      | nil => exact fun g' h => h
      | cons q r ih =>
        intro g' hg
        obtain ⟨x, v⟩ := q
        unfold standGo
        split
        · exact ih _ (hv x g' hg)
        · exact hv x g' hg
    unfold standB
    split
    · exact fun m h => .inl h
    · split
      · exact go _ _ fun m h => .inl h
      · exact fun m h => .inl h
  have hd := doneM_inv (step := stepG (visName st k n) (knownAt st n)) (fun s => ∀ m ∈ s.1, m ∈ g ∨ st.row.idxOf m < st.row.idxOf n) (fun s x hP => hv x s.1 hP) (st.cell n).src [] [] ((standB st (visName st k n) n g).2, []) hs
  refine ⟨fun z => ?_, fun z => ?_⟩
  · rcases hs n z with w | w
    · exact hng w
    · omega
  · rcases hd n z with w | w
    · exact hng w
    · omega
theorem done_pure {st : NbS} {k n : Nat} {g : List Nat} {r : DoneS} {s1 : List Nat × Asked} (h : doneM (stepG (visName st k n) (knownAt st n)) (st.cell n).src [] [] (g, []) = (r, s1)) : (pureRun st n).1 = r ∧ (pureRun st n).2 = s1.2 := by
  have := doneM_map (step := stepG (visName st k n) (knownAt st n)) (step' := stepA (knownAt st n)) (fun s => s.2) (fun s x => rfl) (st.cell n).src [] [] (g, [])
  rw [h] at this
  have this : pureRun st n = (r, s1.2) := this
  rw [this]
  exact ⟨rfl, rfl⟩
end LC
namespace LC
open PySem PySem.Spec PyProof.Rows L2 Evl LamX NdefX
section
variable {K : Frag} {T : NbC} {σ : L2.St} {H : Hp} {D : Ends} {i : Nat} {t1 t2 t3 ta : TE} {lv av sv dv wv : V} {t : Addr} {sp : Sp} {E : L2.St → XK} {E0' : XK} {f : Str}
theorem s_doneA (h1 : Ev t1 σ H lv) (h2 : ∀ H1, Ex H H1 → t2 σ H1 fun x H2 => sp [lv, x] H2 (fun v H' => D.nx (σ.set i (some v)) H') (E σ)) : tAsg (tCallS sp E (tCons t1 (tCons t2 tNil))) (gName i) D σ H := h1 H (Ex.refl H) _ fun H1 e1 => h2 H1 e1
theorem s_rec (h1 : Ev t1 σ H lv) (h2 : Ev t2 σ H av) (h3 : Ev t3 σ H (.ref t)) (ht : H t = some (.tup [sv, dv, wv])) (kk : ∀ x dx H1, H x = none → Ex H H1 → H1 x = some (.ins T.R dx [("lines", lv), ("asked", av), ("shown", sv), ("sets", dv), ("why", wv)]) → ta σ H1 fun y H2 => ∃ a C dx fs, y = .ref a ∧ H2 a = some (.ins C dx fs) ∧ Cls K C ∧ NoAttr K C f ∧ fs.length < 1000 ∧ D.nx σ (upd H2 a (.ins C dx (putF f (.ref x) fs)))) :
    sFld K ta (tMake T.R (spRecI K T) [] E0' (tCons t1 (tCons t2 (tCons t3 tNil)))) f D σ H := h1 H (Ex.refl H) _ fun H1 e1 => h2 H1 e1 _ fun H2 e2 => h3 H2 (e1.trans e2) _ fun H3 e3 => by
  have X := (e1.trans e2).trans e3
  intro x dx hx hdx hne
  have ht3 := X _ _ ht
  have tx : t ≠ x := ne_of_none ht3 hx
  have td : t ≠ dx := ne_of_none ht3 hdx
  refine ⟨x, dx, lv, av, t, sv, dv, wv, rfl, upd_same, .inl (.inl (by rw [upd_ne tx, upd_ne td]; exact ht3)), tx, fun H' h4 h5 => ⟨rfl, ?_⟩⟩
  have e4 : Ex H3 H' := fun a o h => by
    have a1 : a ≠ x := ne_of_none h hx
    have a2 : a ≠ dx := ne_of_none h hdx
    refine h5 a o a1 ?_
    rw [upd_ne a1, upd_ne a2]
    exact h
  exact kk x dx H' (fresh_back X hx) (X.trans e4) h4
end
end LC

namespace LC
open PySem PySem.Spec PyProof.Rows L2 Evl LamX NdefX
/-! ### notebooks and the tables of code objects -/
def Tb (TT : List NTab) (a : Addr) : Prop := ∃ p ∈ TT, p.1 = a
def Mt (TT : List NTab) (M : Addr → Prop) (a : Addr) : Prop := M a ∨ Tb TT a
structure TB (TT : List NTab) (M : Addr → Prop) (B H : Hp) : Prop where
  tb : TabsN TT H
  out : ∀ p ∈ TT, ¬ M p.1 ∧ B p.1 = none
  kd : ∀ c, Told TT H c → ¬ M c ∧ B c = none
section
variable {K : Frag} {T : NbC} {TT : List NTab} {st : NbS} {M M' Mn M0 : Addr → Prop} {B B' H H' : Hp} {nb gd rn : Addr} {g : List Nat}
theorem TB.tabH (t : TB TT M B H) {p : NTab} (hp : p ∈ TT) : H p.1 ≠ none := by
  obtain ⟨ps, a1, _, _⟩ := t.tb p hp
  rw [a1]
  exact fun z => nomatch z
/-- what is done to a notebook leaves the tables -/
theorem TB.fr (t : TB TT M B H) (f : Fr M M' B H H' B') : TB TT M' B' H' := by
  have tab : ∀ p ∈ TT, ∀ o, H p.1 = some o → H' p.1 = some o := fun p hp o e => f.fr _ o e (t.out p hp).1
  have cod : ∀ c, Told TT H c → ∀ o, H c = some o → H' c = some o := fun c hc o e => f.fr c o e (t.kd c hc).1
  refine ⟨fun p hp => ?_, fun p hp => ⟨fun z => ?_, f.nw _ (t.out p hp).2 (t.tabH hp)⟩, fun c hc => ?_⟩
  · obtain ⟨ps, a1, a2, a3⟩ := t.tb p hp
    refine ⟨ps, tab p hp _ a1, a2, fun pos cv hcv => ?_⟩
    obtain ⟨c, b1, b2⟩ := a3 pos cv hcv
    subst b1
    exact ⟨c, rfl, cod c ⟨p, hp, ps, pos, a1, hcv⟩ _ b2⟩
  · rcases f.mm _ z with w | w
    · exact (t.out p hp).1 w
    · exact t.tabH hp w
  · have hc := told_ex t.tb tab hc
    obtain ⟨q, hq⟩ := told_code t.tb hc
    have hn : H c ≠ none := by rw [hq]; exact fun z => nomatch z
    refine ⟨fun z => ?_, f.nw c (t.kd c hc).2 hn⟩
    rcases f.mm c z with w | w
    · exact (t.kd c hc).1 w
    · exact hn w
theorem TB.gr (t : TB TT M B H) (e : Gr B H H' B') : TB TT M B' H' := t.fr (Fr.of e)
theorem TB.ex (t : TB TT M B H) (x : Ex B H) (e : Ex H H') : TB TT M B H' := t.gr (Gr.base x e)
theorem Fr.tabs (f : Fr M M' B H H' B') : Fr (Mt TT M) (Mt TT M') B H H' B' :=
  ⟨fun a o e n => f.fr a o e fun z => n (.inl z), f.xd, f.d2, f.nw, fun a z => by
    rcases z with z | z
    · exact (f.mm a z).imp (fun w => .inl w) id
    · exact .inl (.inr z), fun a z => z.imp (f.sub a) id, f.stay⟩
theorem NB.wideM (h : NB K T M B H nb st) (s : ∀ a, M a → M' a) (m : ∀ a, M' a → B a = none ∧ H a ≠ none) : NB K T M' B H nb st := by
  obtain ⟨dn, c, r, kvs, ad, L⟩ := h
  exact ⟨dn, c, r, kvs, ad, L.x, m, L.hn, L.hc, L.hr, s _ L.mn, s _ L.mc, s _ L.mr, L.kin, L.kout, L.kl, fun n hn => s _ (L.mad n hn), L.cells, L.inj⟩
theorem NB.m (h : NB K T M B H nb st) : ∀ a, M a → B a = none ∧ H a ≠ none := by
  obtain ⟨dn, c, r, kvs, ad, L⟩ := h
  exact L.m
theorem NB.mn (h : NB K T M B H nb st) : M nb := by
  obtain ⟨dn, c, r, kvs, ad, L⟩ := h
  exact L.mn
/-- what a run may change: not the notebook's own record, so its row stays in its place -/
def Ms (TT : List NTab) (M : Addr → Prop) (nb gd rn : Addr) (a : Addr) : Prop := (Mt TT M a ∧ a ≠ nb) ∨ a = gd ∨ a = rn
theorem Ms.not (h : NB K T M B H nb st) (hg : H gd = none) (hr : H rn = none) : ¬ Ms TT M nb gd rn nb := fun z => by
  have := (h.m _ h.mn).2
  rcases z with z | z | z
  · exact z.2 rfl
  · exact this (by rw [z]; exact hg)
  · exact this (by rw [z]; exact hr)
theorem mix_nil : mix st [] = st := by
  cases st
  unfold mix
  congr 1
/-- a run begins -/
theorem RS.start (h : NB K T M0 B H nb st) (t : TB TT M0 B H) (hg : H gd = some (.dK [])) (hr : H rn = some (.lst [])) (ng : ¬ M0 gd ∧ B gd = none) (nr : ¬ M0 rn ∧ B rn = none) : RS K T TT st (Ms TT M0 nb gd rn) B H nb gd rn [] := by
  have mn := h.mn
  have tn : ∀ p ∈ TT, p.1 ≠ nb := fun p hp z => (t.out p hp).1 (by rw [z]; exact mn)
  refine ⟨⟨M0, by rw [mix_nil]; exact h, fun a ha => (Classical.em (a = nb)).elim .inr fun z => .inl (.inl ⟨.inl ha, z⟩), ng.1, nr.1, fun p hp => (t.out p hp).1⟩, fun a ha => ?_, hg, hr, .inr (.inl rfl), .inr (.inr rfl), t.tb, fun p hp => .inl ⟨.inr ⟨p, hp, rfl⟩, tn p hp⟩, List.nodup_nil, fun m hm => (nomatch hm), fun c hc => ⟨fun z => ?_, (t.kd c hc).2⟩⟩
  · rcases ha with ⟨ha | ⟨p, hp, rfl⟩, _⟩ | rfl | rfl
    · exact h.m a ha
    · exact ⟨(t.out p hp).2, t.tabH hp⟩
    · exact ⟨ng.2, by rw [hg]; exact fun z => nomatch z⟩
    · exact ⟨nr.2, by rw [hr]; exact fun z => nomatch z⟩
  · obtain ⟨q, hq⟩ := told_code t.tb hc
    rcases z with ⟨z | ⟨p, hp, z⟩, _⟩ | z | z
    · exact (t.kd c hc).1 z
    · obtain ⟨ps, a1, _, _⟩ := t.tb p hp
      rw [z, hq] at a1
      cases a1
    · rw [z, hg] at hq; cases hq
    · rw [z, hr] at hq; cases hq
/-- a run ends: what was run is told -/
theorem RS.stop {H0 : Hp} {B0 : Hp} {M1 : Addr → Prop} (R : RS K T TT st M1 B H nb gd rn g) (f : Fr (Ms TT M0 nb gd rn) M1 B0 H0 H B) (h0 : NB K T M0 B0 H0 nb st) (t0 : TB TT M0 B0 H0) (ng : H' gd = none) (nr : H' rn = none) (e : Ex H' H0) (hM : ∀ a, M0 a → H' a ≠ none) :
    ∃ M2 B2, Fr (Mt TT M0) (Mt TT M2) B0 H' H B2 ∧ NB K T M2 B2 H nb (mix st g) ∧ TB TT M2 B2 H ∧ Dt K B2 (.ref rn) (.list ((g.filter fun m => !standsB st m).map fun m : Nat => PyData.int (m : Int))) := by
  obtain ⟨Mn, h, h1, h2, h3, h4⟩ := R.nB
  have m0 : ∀ a, M0 a → M1 a ∨ a = nb := fun a ha => (Classical.em (a = nb)).elim .inr fun z => .inl (f.sub a (.inl ⟨.inl ha, z⟩))
  obtain ⟨bn, dnn, fsn, en⟩ := R.bn
  have nrn : nb ≠ rn := ne_of en R.hr fun z => by cases z
  have brn : B rn = none := (R.m rn R.mr).1
  have nM0 : ¬ M0 rn := fun z => hM rn z nr
  have hd : ∀ a, M0 a → a ≠ rn := fun a ha z => nM0 (by rw [← z]; exact ha)
  have xb : Ex B (upd B rn (.lst ((g.filter fun m => !standsB st m).map fun m : Nat => V.int (m : Int)))) := Ex.new brn
  have xh : Ex (upd B rn (.lst ((g.filter fun m => !standsB st m).map fun m : Nat => V.int (m : Int)))) H := fun a o q => by
    by_cases z : a = rn
    · rw [z, upd_same] at q
      cases q
      rw [z]
      exact R.hr
    · rw [upd_ne z] at q
      exact R.x _ _ q
  have mB : ∀ a, (Mn a ∨ M0 a) → upd B rn (.lst ((g.filter fun m => !standsB st m).map fun m : Nat => V.int (m : Int))) a = none ∧ H a ≠ none := fun a ha => by
    have ne : a ≠ rn := fun z => by
      rcases ha with ha | ha
      · exact h3 (by rw [← z]; exact ha)
      · exact hd a ha z
    rw [upd_ne ne]
    rcases ha.elim (h1 a) (m0 a) with mm | mm
    · exact R.m a mm
    · rw [mm]
      exact ⟨bn, by rw [en]; exact fun z => nomatch z⟩
  have tne : ∀ p ∈ TT, p.1 ≠ rn := fun p hp z => by
    obtain ⟨ps, a1, _, _⟩ := R.tb p hp
    rw [z, R.hr] at a1
    cases a1
  refine ⟨fun a => Mn a ∨ M0 a, _, ⟨fun a o q n => f.fr a o (e _ _ q) fun z => ?_, f.xd.trans xb, xh, fun a hb hh => ?_, fun a z => ?_, fun a z => z.imp (fun w => .inr w) id, fun a hh => f.stay a (ne_none e hh)⟩, (h.more xb xh fun a ha => (mB a (.inl ha)).1).wideM (fun a ha => .inl ha) mB, ⟨R.tb, fun p hp => ⟨fun z => ?_, ?_⟩, fun c hc => ⟨fun z => ?_, ?_⟩⟩, .lst upd_same ?_⟩
  · rcases z with z | z | z
    · exact n z.1
    · rw [z, ng] at q; cases q
    · rw [z, nr] at q; cases q
  · have ne : a ≠ rn := fun z => hh (by rw [z]; exact nr)
    rw [upd_ne ne]
    exact f.nw a hb (ne_none e hh)
  · rcases z with z | z
    · rcases z.elim (h1 a) (m0 a) with mm | mm
      rotate_left
      · exact .inl (.inl (by rw [mm]; exact h0.mn))
      rcases f.mm a mm with w | w
      · rcases w with w | w | w
        · exact .inl w.1
        · rw [w]; exact .inr ng
        · rw [w]; exact .inr nr
      · right
        cases q : H' a with
        | none => rfl
        | some o => exact absurd w (by rw [e _ _ q]; exact fun z => nomatch z)
    · exact .inl (.inr z)
  · rcases z with z | z
    · exact h4 p hp z
    · exact (t0.out p hp).1 z
  · rw [upd_ne (tne p hp)]
    exact (R.m _ (R.tm p hp)).1
  · obtain ⟨q, hq⟩ := told_code R.tb hc
    rcases z.elim (h1 c) (m0 c) with w | w
    · exact (R.kd c hc).1 w
    · rw [w, en] at hq; cases hq
  · obtain ⟨q, hq⟩ := told_code R.tb hc
    rw [upd_ne fun z => by rw [z, R.hr] at hq; cases hq]
    exact (R.kd c hc).2
  · have := dt_ints (K := K) (H := upd B rn (.lst ((g.filter fun m => !standsB st m).map fun m : Nat => V.int (m : Int)))) ((g.filter fun m => !standsB st m).map fun m : Nat => (m : Int))
    rw [List.map_map, List.map_map] at this
    exact this
end
def visitAll (st : NbS) (l : List Nat) (g : List Nat) : List Nat := l.foldl (fun g n => if (st.cell n).struck then g else visit st 31 n g) g
theorem visitAll_app (st : NbS) (l : List Nat) (n : Nat) (g : List Nat) : visitAll st (l ++ [n]) g = if (st.cell n).struck then visitAll st l g else visit st 31 n (visitAll st l g) := by
  unfold visitAll
  rw [List.foldl_append]
  rfl
theorem s_forM {K : Frag} {σ : L2.St} {H : Hp} {tl : TE} {g : TG} {tu : TS} {D : Ends} {xs : List V} {r : Addr} (h : Ev tl σ H (.ref r)) (hr : H r = some (.lst xs)) (Pv : Nat → L2.St → Hp → Prop) (h0 : ∀ H1, Ex H H1 → Pv 0 σ H1) (hl : ∀ i σ' H', Pv i σ' H' → H' r = some (.lst xs))
    (hs : ∀ i x σ' H', xs[i]? = some x → Pv i σ' H' → g x σ' H' fun σ2 H2 => tu { D with nx := Pv (i + 1), ct := Pv (i + 1), bk := D.nx } σ2 H2) (hd : ∀ σ' H', Pv xs.length σ' H' → D.nx σ' H') : tFor (iSeq K tl) g tu D σ H :=
  .inl (h H (Ex.refl H) _ fun H1 e => ⟨r, rfl, ⟨xs, sq_of (e _ _ hr)⟩, for_list (K := K) (a := r) (xs := xs) Pv (h0 H1 e) (fun i σ' H' _ q => sq_of (hl i σ' H' q)) hs hd⟩)
section
variable {K : Frag} {T : NbC} {TT : List NTab} {st : NbS} {M M' : Addr → Prop} {B B' H H' : Hp} {nb gd rn dn c r : Addr} {g : List Nat} {kvs : List (Key × V)} {ad : Nat → Addr}
/-- the row stays in its place -/
theorem RS.row_at (R : RS K T TT st M' B' H' nb gd rn g) (L : NbL K T M B H nb st dn c r kvs ad) (h : H' nb = H nb) : H' r = some (.lst (st.row.map fun n : Nat => V.int (n : Int))) := by
  obtain ⟨Mn, ⟨dn2, c2, r2, kvs2, ad2, L2⟩, _⟩ := R.nB
  have e := L2.hn
  rw [h, L.hn] at e
  injection e with e
  injection e with e1 e2 e3
  injection e3 with e4 e5
  injection e5 with e6 e7
  injection e6 with e8 e9
  injection e9 with e9
  rw [e9]
  exact L2.hr
end
/-! ### promises with tables -/
def spNbT (K : Frag) (T : NbC) (TT : List NTab) (R : NbS → List PyData → (PyData ⊕ Addr) → NbS → Prop) : Sp := fun vs H Q E => ∃ M B nb st ws ds o st', vs = .ref nb :: ws ∧ NB K T M B H nb st ∧ TB TT M B H ∧ Sit st ∧ DtAll K B ws ds ∧ R st ds o st' ∧
  (∀ d, o = .inl d → ∀ v H' B' M', Fr (Mt TT M) (Mt TT M') B H H' B' → NB K T M' B' H' nb st' → TB TT M' B' H' → Dt K B' v d → Q v H') ∧ (∀ c, o = .inr c → ∀ H', Ex H H' → E (.ref c) none H')
def ranOf (st : NbS) (g : List Nat) : List Nat := g.filter fun m => !standsB st m
def R_run (cC cS : Addr) (st : NbS) (ds : List PyData) (o : PyData ⊕ Addr) (st' : NbS) : Prop := ∃ d, ds = [d] ∧ ((isCellD st d = false ∧ o = .inr cC ∧ st' = st) ∨ ∃ n ∈ st.row, d = .int ((n : Nat) : Int) ∧
  (((st.cell n).struck = true ∧ o = .inr cS ∧ st' = st) ∨ ((st.cell n).struck = false ∧ o = .inl (.list ((ranOf st (visit st 31 n [])).map fun m : Nat => PyData.int (m : Int))) ∧ st' = mix st (visit st 31 n []))))
def R_run_all (st : NbS) (ds : List PyData) (o : PyData ⊕ Addr) (st' : NbS) : Prop := ds = [] ∧ o = .inl (.list ((ranOf st (visitAll st st.row [])).map fun m : Nat => PyData.int (m : Int))) ∧ st' = mix st (visitAll st st.row [])
def R_look_live (cC cS : Addr) (st : NbS) (ds : List PyData) (o : PyData ⊕ Addr) : Prop := ∃ d, ds = [d] ∧ ((isCellD st d = false ∧ o = .inr cC) ∨ ∃ n ∈ st.row, d = .int ((n : Nat) : Int) ∧ (((st.cell n).struck = true ∧ o = .inr cS) ∨ ((st.cell n).struck = false ∧ o = .inl .none)))
end LC

namespace LC
open PySem PySem.Spec PyProof.Rows L2 Evl LamX NdefX
/-! ### what is fresh, how a cell stands, what it shows -/
def okAsk (st : NbS) (n : Nat) (fr : List Nat) (q : Str × Option Int) : Bool := match setterF st n q.1 with
  | none => decide (q.2 = none)
  | some m => decide (m ∈ fr) && decide (q.2 = lastT st (some m) q.1)
def holdsB (st : NbS) (n : Nat) (fr : List Nat) : Bool := match (st.cell n).recd with
  | none => false
  | some r => decide (r.lines = (st.cell n).src) && r.asked.all (okAsk st n fr)
def freshGo (st : NbS) (l : List Nat) : List Nat := l.foldl (fun f n => if !(st.cell n).struck && holdsB st n f then f ++ [n] else f) []
def freshL (st : NbS) : List Nat := freshGo st st.row
def stateW (st : NbS) (n : Nat) : Str := if (st.cell n).struck then "struck" else if (st.cell n).recd = none then "new" else if n ∈ freshL st then "fresh" else "stale"
def viewD (st : NbS) (n : Nat) : PyData := match (st.cell n).recd with
  | none => .none
  | some r => .tuple [.list (r.shown.map PyData.int), encWhy r.why]
abbrev natL (l : List Nat) : PyData := .list (l.map fun m : Nat => PyData.int (m : Int))
def R_holds (st : NbS) (ds : List PyData) (o : PyData ⊕ Addr) : Prop := ∃ (n : Nat) (fr : List Nat), ds = [.int (n : Int), natL fr] ∧ n ∈ st.row ∧ RecV st ∧ (∀ m ∈ fr, m ∈ st.row ∧ ∃ r, (st.cell m).recd = some r) ∧ o = .inl (.bool (holdsB st n fr))
def R_fresh (st : NbS) (ds : List PyData) (o : PyData ⊕ Addr) : Prop := ds = [] ∧ RecV st ∧ o = .inl (natL (freshL st))
def R_state (cC : Addr) (st : NbS) (ds : List PyData) (o : PyData ⊕ Addr) : Prop := ∃ d, ds = [d] ∧ RecV st ∧ ((isCellD st d = false ∧ o = .inr cC) ∨ ∃ n ∈ st.row, d = .int ((n : Nat) : Int) ∧ o = .inl (.str (stateW st n)))
def R_view (cC : Addr) (st : NbS) (ds : List PyData) (o : PyData ⊕ Addr) : Prop := ∃ d, ds = [d] ∧ ((isCellD st d = false ∧ o = .inr cC) ∨ ∃ n ∈ st.row, d = .int ((n : Nat) : Int) ∧ o = .inl (viewD st n))
section
variable {K : Frag} {σ : L2.St} {B H : Hp} {ta tb : TE} {d e : PyData}
theorem ev_opb {r : R2} {z : V} (ha : EvB K ta σ B H d) (hb : EvB K tb σ B H e) (hr : ∀ x y H1, Dt K H1 x d → Dt K H1 y e → ∀ Q : VK, Q z H1 → r x y H1 Q) : Ev (tOp r ta tb) σ H z := fun H1 e1 Q q =>
  ha H1 e1 _ fun x H2 A g hx => hb H2 (e1.trans g.ex) _ fun y H3 C g2 hy => hr x y H3 (dp_ex (g.d2.trans g2.ex) _ _ hx) (dp_ex g2.d2 _ _ hy) Q (q H3 (g.ex.trans g2.ex))
theorem evb_ne (ha : EvB K ta σ B H d) (hb : EvB K tb σ B H e) (sd : SeqAt.shaped d = true) (se : SeqAt.shaped e = true) : Ev (tOp (rNeD K) ta tb) σ H (.bl (!PyData.eqv d e)) := ev_opb ha hb fun x y H1 hx hy Q q => ⟨d, e, dt_dp _ _ hx, dt_dp _ _ hy, sd, se, q⟩
theorem evb_eq (ha : EvB K ta σ B H d) (hb : EvB K tb σ B H e) (sd : SeqAt.shaped d = true) (se : SeqAt.shaped e = true) : Ev (tOp (rEqD K) ta tb) σ H (.bl (PyData.eqv d e)) := ev_opb ha hb fun x y H1 hx hy Q q => ⟨d, e, dt_dp _ _ hx, dt_dp _ _ hy, sd, se, q⟩
theorem evb_inL {neg : Bool} {ds : List PyData} (ha : EvB K ta σ B H d) (hb : EvB K tb σ B H (.list ds)) (fd : flatD d = true) (fs : ds.all flatD = true) : Ev (tOp (rInU K neg) ta tb) σ H (.bl (if neg then !inD d ds else inD d ds)) := ev_opb ha hb fun x y H1 hx hy Q q => by
  obtain ⟨a, xs, rfl, hs, hall⟩ := dp_lst hy
  exact .inl ⟨a, xs, rfl, .inl (sq_of hs), flat_dp hx fd, flats_dp hall fs, by rw [inV_dp hx fd hall fs]; exact q⟩
end
theorem inD_nats (n : Nat) : ∀ l : List Nat, inD (.int (n : Int)) (l.map fun m : Nat => PyData.int (m : Int)) = decide (n ∈ l)
  | [] => by simp [inD]
  | x :: l => by
    have ih := inD_nats n l
    have e : inD (.int (n : Int)) ((x :: l).map fun m : Nat => PyData.int (m : Int)) = (((x : Int) == (n : Int)) || inD (.int (n : Int)) (l.map fun m : Nat => PyData.int (m : Int))) := by
      simp [inD, PyData.eqv]
    rw [e, ih, Bool.eq_iff_iff]
    simp only [Bool.or_eq_true, decide_eq_true_eq, List.mem_cons, beq_iff_eq]
    constructor
    · rintro (h | h)
      · exact .inl (by omega)
      · exact .inr h
    · rintro (h | h)
      · exact .inl (by omega)
      · exact .inr h
theorem flat_nats (l : List Nat) : (l.map fun m : Nat => PyData.int (m : Int)).all flatD = true := by
  rw [List.all_eq_true]
  intro d hd
  obtain ⟨m, _, rfl⟩ := List.mem_map.mp hd
  rfl
theorem freshGo_snoc (st : NbS) (l : List Nat) (n : Nat) : freshGo st (l ++ [n]) = if !(st.cell n).struck && holdsB st n (freshGo st l) then freshGo st l ++ [n] else freshGo st l := by
  unfold freshGo
  rw [List.foldl_append]
  rfl
theorem holds_rec {st : NbS} {n : Nat} {fr : List Nat} (h : holdsB st n fr = true) : ∃ r, (st.cell n).recd = some r := by
  unfold holdsB at h
  cases q : (st.cell n).recd with
  | none => rw [q] at h; cases h
  | some r => exact ⟨r, rfl⟩
theorem freshGo_sub (st : NbS) (l : List Nat) : ∀ m ∈ freshGo st l, m ∈ l ∧ (st.cell m).struck = false ∧ ∃ r, (st.cell m).recd = some r := by
  have go : ∀ k, k ≤ l.length → ∀ m ∈ freshGo st (l.take k), m ∈ l ∧ (st.cell m).struck = false ∧ ∃ r, (st.cell m).recd = some r := by
    intro k
    induction k with
    | zero => intro _ m hm; cases hm
    | succ k ih =>
      intro hk m hm
      have hq : l[k]? = some l[k] := List.getElem?_eq_getElem hk
      rw [List.take_add_one, hq] at hm
      have hm : m ∈ freshGo st (l.take k ++ [l[k]]) := hm
      rw [freshGo_snoc] at hm
      split at hm
      · rename_i h
        rcases List.mem_append.mp hm with z | z
        · exact ih (by omega) m z
        · have e := List.mem_singleton.mp z
          subst e
          simp only [Bool.and_eq_true, Bool.not_eq_true'] at h
          exact ⟨List.getElem_mem _, h.1, holds_rec h.2⟩
      · exact ih (by omega) m hm
  have := go l.length (Nat.le_refl _)
  rwa [List.take_length] at this
theorem dt_nats {K : Frag} {H : Hp} (l : List Nat) : DtAll K H (l.map fun m : Nat => V.int (m : Int)) (l.map fun m : Nat => PyData.int (m : Int)) := by
  have := dt_ints (K := K) (H := H) (l.map fun m : Nat => (m : Int))
  rw [List.map_map, List.map_map] at this
  exact this
theorem freshGo_len (st : NbS) (l : List Nat) : (freshGo st l).length ≤ l.length := by
  have go : ∀ k, k ≤ l.length → (freshGo st (l.take k)).length ≤ k := by
    intro k
    induction k with
    | zero => intro _; exact Nat.le_refl _
    | succ k ih =>
      intro hk
      have hq : l[k]? = some l[k] := List.getElem?_eq_getElem hk
      rw [List.take_add_one, hq]
      show (freshGo st (l.take k ++ [l[k]])).length ≤ _
      rw [freshGo_snoc]
      have := ih (by omega)
      split
      · rw [List.length_append]; show _ + 1 ≤ _; omega
      · omega
  have := go l.length (Nat.le_refl _)
  rwa [List.take_length] at this
/-- a list of the method's own, as data -/
theorem ex_own {B H : Hp} {p : Addr} {o : HO} (x : Ex B H) (h : H p = some o) : Ex (upd B p o) H := fun a u q => by
  by_cases z : a = p
  · rw [z, upd_same] at q
    cases q
    rw [z]
    exact h
  · rw [upd_ne z] at q
    exact x _ _ q
end LC

namespace LC
open PySem PySem.Spec PyProof.Rows L2 Evl LamX NdefX
/-! ### comprehensions and loops where a notebook is looked at -/
section
variable {K : Frag} {σ : L2.St} {A B H H' : Hp} {te tl : TE} {tt : TT} {j : Nat} {vs : List Nat} {z : PyData} {D : Ends} {g : TG} {tu : TS}
theorem lc_turnE {H2 : Hp} {L : Addr} {out : List PyData} {σ2 : L2.St} {b : Bool} (e : Ex A H2) (hD : H2 L = none) (p : Acc K A H2 L out H') (hl : out.length < 50000) (ht : EvT tt σ2 H2 b) (he : b = true → EvB K te σ2 A H2 z) :
    tt σ2 H' fun b' H3 => if b' = true then te σ2 H3 fun y H4 => ∃ acc, H4 L = some (.lst acc) ∧ acc.length < sizeLine ∧ Acc K A H2 L (if b then out ++ [z] else out) (upd H4 L (.lst (acc ++ [y]))) else Acc K A H2 L (if b then out ++ [z] else out) H3 := by
  refine ht H' p.1 _ fun H3 e3 => ?_
  cases b with
  | true =>
    show te σ2 H3 _
    refine he rfl H3 (p.1.trans e3) _ fun y H4 C g hy => ?_
    obtain ⟨acc, h1, h2, h3⟩ := (p.grow e3).push (fresh_back e hD) hD g hy
    exact ⟨acc, h1, sz_lt (by omega), h3⟩
  | false => exact p.grow e3
theorem evb_lcL {ds : List PyData} (f : PyData → Bool) (g : PyData → PyData) (h : EvB K tl σ B H (.list ds)) (hz : ds.length ≤ 40000) (hw : ∀ x, wipe ((wipe σ vs).set j (some x)) vs = wipe σ vs)
    (ht : ∀ x d B1 H1, Gr B H H1 B1 → d ∈ ds → Dt K B1 x d → EvT tt ((wipe σ vs).set j (some x)) H1 (f d)) (he : ∀ x d B1 H1, Gr B H H1 B1 → d ∈ ds → f d = true → Dt K B1 x d → EvB K te ((wipe σ vs).set j (some x)) B1 H1 (g d)) :
    EvB K (tLc (iSeq K tl) (gName j) tt te vs) σ B H (.list ((ds.filter f).map g)) := fun H1 e Q q => by
  refine .inl (h H1 e _ fun v H2 A gr hd => ?_)
  obtain ⟨a, xs, rfl, hs, hall⟩ := dp_lst hd
  refine ⟨a, rfl, ⟨xs, sq_of (gr.d2 _ _ hs)⟩, fun D hD => ?_⟩
  refine lc_list (K := K) (a := a) (xs := xs) (fun i H' => Acc K A H2 D (((ds.take i).filter f).map g) H') (Acc.nil gr.d2 hD) (fun i H' _ p => sq_of (p.base _ _ hs)) (fun i x H' hi p => ?_) fun H' p => ?_
  · obtain ⟨d, hdi, hx⟩ := dpAll_of hall hi
    have hm : d ∈ ds := List.mem_of_getElem? hdi
    have hl := out_len (ds := ds) f g i
    refine ⟨hw x, ?_⟩
    rw [out_snoc f g hdi]
    exact lc_turnE gr.d2 hD p (by omega) (ht x d A H2 (gr.after e) hm hx) (fun hf => he x d A H2 (gr.after e) hm hf hx)
  · have p2 : Acc K A H2 D (((ds.take xs.length).filter f).map g) H' := p
    rw [dpAll_len hall, List.take_length] at p2
    obtain ⟨Hd, g1, g2⟩ := p2.done gr.xd gr.fr gr.ex hD
    exact q _ H' Hd g1 g2
theorem evb_lcT {ds : List PyData} (f : PyData → Bool) (g : PyData → PyData) (h : EvB K tl σ B H (.tuple ds)) (hz : ds.length ≤ 40000) (hw : ∀ x, wipe ((wipe σ vs).set j (some x)) vs = wipe σ vs)
    (ht : ∀ x d B1 H1, Gr B H H1 B1 → d ∈ ds → Dt K B1 x d → EvT tt ((wipe σ vs).set j (some x)) H1 (f d)) (he : ∀ x d B1 H1, Gr B H H1 B1 → d ∈ ds → f d = true → Dt K B1 x d → EvB K te ((wipe σ vs).set j (some x)) B1 H1 (g d)) :
    EvB K (tLc (iSeq K tl) (gName j) tt te vs) σ B H (.list ((ds.filter f).map g)) := fun H1 e Q q => by
  refine .inr (.inl (h H1 e _ fun v H2 A gr hd => ?_))
  obtain ⟨a, xs, rfl, hs, hall⟩ := dp_tup hd
  refine ⟨a, rfl, ⟨xs, ex_t gr.d2 hs⟩, fun D hD => ?_⟩
  refine lc_tup (K := K) (a := a) (xs := xs) (fun i H' => Acc K A H2 D (((ds.take i).filter f).map g) H') (Acc.nil gr.d2 hD) (fun i H' _ p => ex_t (p.base) hs) (fun i x H' hi p => ?_) fun H' p => ?_
  · obtain ⟨d, hdi, hx⟩ := dpAll_of hall hi
    have hm : d ∈ ds := List.mem_of_getElem? hdi
    have hl := out_len (ds := ds) f g i
    refine ⟨hw x, ?_⟩
    rw [out_snoc f g hdi]
    exact lc_turnE gr.d2 hD p (by omega) (ht x d A H2 (gr.after e) hm hx) (fun hf => he x d A H2 (gr.after e) hm hf hx)
  · have p2 : Acc K A H2 D (((ds.take xs.length).filter f).map g) H' := p
    rw [dpAll_len hall, List.take_length] at p2
    obtain ⟨Hd, g1, g2⟩ := p2.done gr.xd gr.fr gr.ex hD
    exact q _ H' Hd g1 g2
theorem filter_range_snoc (f : Nat → Bool) (g : Nat → PyData) (i : Nat) : ((List.range (i + 1)).filter f).map g = if f i then ((List.range i).filter f).map g ++ [g i] else ((List.range i).filter f).map g := by
  rw [List.range_succ, List.filter_append, List.map_append]
  cases q : f i with
  | true => simp [q]
  | false => simp [q]
theorem evb_lcR {ta : TA} {n : Nat} (f : Nat → Bool) (g : Nat → PyData) (h : EvBs K ta σ B H [.int (n : Int)]) (hz : n ≤ 40000) (hw : ∀ x, wipe ((wipe σ vs).set j (some x)) vs = wipe σ vs)
    (ht : ∀ i B1 H1, Gr B H H1 B1 → i < n → EvT tt ((wipe σ vs).set j (some (.int (i : Int)))) H1 (f i)) (he : ∀ i B1 H1, Gr B H H1 B1 → i < n → f i = true → EvB K te ((wipe σ vs).set j (some (.int (i : Int)))) B1 H1 (g i)) :
    EvB K (tLc (iRng1 ta) (gName j) tt te vs) σ B H (.list (((List.range n).filter f).map g)) := fun H1 e Q q => h H1 e _ fun ws H2 A gr hd => by
  obtain rfl : ws = [.int (n : Int)] := by
    cases hd with
    | cons h1 h2 => cases h2; rw [dp_int h1]
  refine ⟨n, rfl, by omega, by omega, fun D hD => ?_⟩
  refine lc_range (lo := 0) (n := (n : Int).toNat) (fun i H' => Acc K A H2 D (((List.range i).filter f).map g) H') (Acc.nil gr.d2 hD) (fun i H' hi p => ?_) fun H' p => ?_
  · have e0 : (0 : Int) + (i : Int) = (i : Int) := Int.zero_add _
    have hi2 : i < n := by omega
    have hl : (((List.range i).filter f).map g).length ≤ i := by
      rw [List.length_map]
      refine Nat.le_trans (List.length_filter_le _ _) ?_
      rw [List.length_range]
      exact Nat.le_refl _
    have key := lc_turnE (tt := tt) (te := te) (σ2 := (wipe σ vs).set j (some (.int (i : Int)))) gr.d2 hD p (by omega) (ht i A H2 (gr.after e) hi2) (fun hf => he i A H2 (gr.after e) hi2 hf)
    show gName j (.int ((0 : Int) + (i : Int))) (wipe σ vs) H' _
    rw [e0]
    refine ⟨hw _, ?_⟩
    rw [filter_range_snoc]
    exact key
  · have p2 : Acc K A H2 D (((List.range (n : Int).toNat).filter f).map g) H' := p
    rw [Int.toNat_natCast] at p2
    obtain ⟨Hd, g1, g2⟩ := p2.done gr.xd gr.fr gr.ex hD
    exact q _ H' Hd g1 g2
theorem et_yes : EvT tYes σ H true := fun H1 _ _ q => q H1 (Ex.refl H1)
/-- for over a list that is told -/
theorem s_forB {ds : List PyData} (h : EvB K tl σ B H (.list ds))
    (k : ∀ H1 Hd, Gr B H H1 Hd → ∃ Pv : Nat → L2.St → Hp → Prop, Pv 0 σ H1 ∧ (∀ i σ' H', Pv i σ' H' → Ex Hd H') ∧
      (∀ i v d σ' H', ds[i]? = some d → Dt K Hd v d → Pv i σ' H' → g v σ' H' fun σ2 H2 => tu { D with nx := Pv (i + 1), ct := Pv (i + 1), bk := D.nx } σ2 H2) ∧ ∀ σ' H', Pv ds.length σ' H' → D.nx σ' H') : tFor (iSeq K tl) g tu D σ H := by
  refine .inl (h H (Ex.refl H) _ fun v H1 Hd gr hd => ?_)
  obtain ⟨a, xs, rfl, hs, hall⟩ := dp_lst hd
  obtain ⟨Pv, p0, pb, ps, pe⟩ := k H1 Hd gr
  refine ⟨a, rfl, ⟨xs, sq_of (gr.d2 _ _ hs)⟩, for_list (K := K) (a := a) (xs := xs) Pv p0 (fun i σ' H' _ q => sq_of (pb i σ' H' q _ _ hs)) (fun i y σ' H' hi q => ?_) fun σ' H' q => pe σ' H' (by rw [← dpAll_len hall]; exact q)⟩
  obtain ⟨d, hdi, hx⟩ := dpAll_of hall hi
  exact ps i y d σ' H' hdi hx q
end
/-! ### strike, move -/
def strikeC (c : CellS) : CellS := ⟨c.src, c.count, !c.struck, c.recd⟩
def strikeS (st : NbS) (n : Nat) : NbS := setS st n (strikeC (st.cell n))
def moveS (st : NbS) (n i : Nat) : NbS := ⟨(st.row.erase n).take i ++ [n] ++ (st.row.erase n).drop i, st.cell, st.after⟩
def R_strike (cC : Addr) (st : NbS) (ds : List PyData) (o : PyData ⊕ Addr) (st' : NbS) : Prop := ∃ d, ds = [d] ∧ ((isCellD st d = false ∧ o = .inr cC ∧ st' = st) ∨ ∃ n ∈ st.row, d = .int ((n : Nat) : Int) ∧ o = .inl (.bool (!(st.cell n).struck)) ∧ st' = strikeS st n)
def R_move (cC cP : Addr) (st : NbS) (ds : List PyData) (o : PyData ⊕ Addr) (st' : NbS) : Prop := ∃ d e, ds = [d, e] ∧ ((isCellD st d = false ∧ o = .inr cC ∧ st' = st) ∨ ∃ n ∈ st.row, d = .int ((n : Nat) : Int) ∧
  ((isWithin e 0 ((st.row.length : Int) - 1) = false ∧ o = .inr cP ∧ st' = st) ∨ ∃ i : Nat, e = .int (i : Int) ∧ i + 1 ≤ st.row.length ∧ o = .inl .none ∧ st' = moveS st n i))
theorem moveS_perm {st : NbS} {n i : Nat} (hn : n ∈ st.row) : (moveS st n i).row.Perm st.row := by
  show ((st.row.erase n).take i ++ [n] ++ (st.row.erase n).drop i).Perm st.row
  have h1 : ((st.row.erase n).take i ++ [n] ++ (st.row.erase n).drop i).Perm (n :: (st.row.erase n)) := by
    rw [List.append_assoc]
    refine List.Perm.trans List.perm_middle ?_
    show (n :: ((st.row.erase n).take i ++ (st.row.erase n).drop i)).Perm _
    rw [List.take_append_drop]
  exact h1.trans (List.perm_cons_erase hn).symm
theorem NbG.move {st : NbS} {n i : Nat} (G : NbG st) (hn : n ∈ st.row) : NbG (moveS st n i) := by
  have p := moveS_perm (i := i) hn
  exact ⟨fun m hm => G.good m (p.mem_iff.mp hm), fun m hm => G.lt m (p.mem_iff.mp hm), p.nodup_iff.mpr G.nd, by rw [p.length_eq]; exact G.len, G.few, fun m hm => G.cnt m (p.mem_iff.mp hm)⟩
theorem NbG.strike {st : NbS} {n : Nat} (G : NbG st) : NbG (strikeS st n) := by
  refine ⟨fun m hm => ?_, G.lt, G.nd, G.len, G.few, fun m hm => ?_⟩
  · show goodS (if m = n then strikeC (st.cell n) else st.cell m).src = true
    split
    · rename_i h; rw [← h]; exact G.good m hm
    · exact G.good m hm
  · have := G.cnt m hm
    show (if m = n then strikeC (st.cell n) else st.cell m).count ≤ _
    split
    · rename_i h; rw [← h]; exact this
    · exact this
theorem NbL.setRow {K : Frag} {T : NbC} {M : Addr → Prop} {B H H' : Hp} {nb dn c r : Addr} {st : NbS} {kvs : List (Key × V)} {ad : Nat → Addr} {row : List Nat} (L : NbL K T M B H nb st dn c r kvs ad) (hm : ∀ m, m ∈ row ↔ m ∈ st.row)
    (h3 : H' r = some (.lst (row.map fun n : Nat => V.int (n : Int)))) (h5 : ∀ a o, a ≠ r → H a = some o → H' a = some o) : Fr M M B H H' B ∧ NbL K T M B H' nb ⟨row, st.cell, st.after⟩ dn c r kvs ad := by
  have br := (L.m _ L.mr).1
  have x' : Ex B H' := fun a o h => h5 a o (fun z => by rw [z, br] at h; cases h) (L.x _ _ h)
  have sty : ∀ a, H a ≠ none → H' a ≠ none := fun a h => by
    by_cases z : a = r
    · rw [z, h3]; exact fun z => nomatch z
    · cases q : H a with
      | none => exact absurd q h
      | some o => rw [h5 a o z q]; exact fun z => nomatch z
  have ar : ∀ n ∈ st.row, ad n ≠ r := fun n hn z => by
    obtain ⟨dx, lv, rv, h1, _⟩ := L.cells n hn
    rw [z, L.hr] at h1
    cases h1
  refine ⟨⟨fun a o h n => h5 a o (fun z => n (by rw [z]; exact L.mr)) h, Ex.refl _, x', fun a b _ => b, fun a m => .inl m, fun a m => m, sty⟩, x', fun a m => ⟨(L.m a m).1, sty a (L.m a m).2⟩, h5 _ _ L.ne_nr L.hn, h5 _ _ L.ne_cr L.hc, h3, L.mn, L.mc, L.mr, fun n hn => L.kin n ((hm n).mp hn), fun i h => L.kout i fun n hn => h n ((hm n).mpr hn), L.kl, fun n hn => L.mad n ((hm n).mp hn), fun n hn => (L.cells n ((hm n).mp hn)).mono (Ex.refl _) fun o => h5 _ o (ar n ((hm n).mp hn)), fun n hn m hm' => L.inj n ((hm n).mp hn) m ((hm m).mp hm')⟩
section
variable {K : Frag} {w : World} {σ : L2.St} {B H : Hp} {te : TE} {d : PyData} {E : XK} {ta : TA}
theorem evb_call {F : List PyData → PyData → Prop} {ds : List PyData} (h : EvBs K ta σ B H ds) (hf : F ds d) : EvB K (tCall (spD K F) [] E ta) σ B H d := fun H1 e Q q =>
  h H1 e _ fun vs H2 A g hds => ⟨ds, d, A, g.d2, by rw [List.append_nil]; exact hds, hf, fun v H3 C g2 hd => q v H3 C (g.seq g2) hd⟩
theorem evb_callX {cB : Addr} {F : List PyData → Option PyData → Prop} {ds : List PyData} (h : EvBs K ta σ B H ds) (hf : F ds (some d)) : EvB K (tCall (spDX K cB F) [] E ta) σ B H d := fun H1 e Q q =>
  h H1 e _ fun vs H2 A g hds => ⟨ds, some d, A, g.d2, by rw [List.append_nil]; exact hds, hf, fun d' e' v H3 C g2 hd => q v H3 C (g.seq g2) (by cases e'; exact hd), fun z => by cases z⟩
theorem evb_sortI {xs : List Int} (h : EvB K te σ B H (.list (xs.map PyData.int))) (hl : xs.length < 60) : EvB K (tCB (rSortU w) (tCons (tCB (rSetQ K w) (tCons te tNil)) tNil)) σ B H (.list ((sortI xs).map PyData.int)) := fun H1 e Q q =>
  h H1 e _ fun v H2 A g hd => by
    obtain ⟨a, vs, rfl, hs, hall⟩ := dp_lst hd
    have ev : vs = (xs.map (Sum.inl : Int → Key)).map kV := by
      rw [List.map_map]
      exact ints_vals hall
    refine ⟨a, xs.map Sum.inl, rfl, sq_of (by rw [← ev]; exact g.d2 _ _ hs), by rw [List.length_map]; unfold scanBound; omega, fun b hb => ?_⟩
    have ll := foldl_addK_len (xs.map (Sum.inl : Int → Key)) []
    rw [List.length_map, List.length_nil] at ll
    refine .inr ⟨b, _, xs, rfl, upd_same, foldK_nodup _ [] List.nodup_nil, fun k => by rw [mem_foldK]; simp, by omega, fun p hp => q _ _ _ ((g.more (Ex.new hb)).new _ hp) (.lst upd_same (dt_ints _))⟩
theorem evb_sortS {xs : List Str} (h : EvB K te σ B H (.list (xs.map PyData.str))) (hl : xs.length < 60) : EvB K (tCB (rSortU w) (tCons (tCB (rSetQ K w) (tCons te tNil)) tNil)) σ B H (.list ((sortU xs).map PyData.str)) := fun H1 e Q q =>
  h H1 e _ fun v H2 A g hd => by
    obtain ⟨a, vs, rfl, hs, hall⟩ := dp_lst hd
    have ev : vs = (xs.map (Sum.inr : Str → Key)).map kV := by
      rw [List.map_map]
      exact strs_vals hall
    refine ⟨a, xs.map Sum.inr, rfl, sq_of (by rw [← ev]; exact g.d2 _ _ hs), by rw [List.length_map]; unfold scanBound; omega, fun b hb => ?_⟩
    have ll := foldl_addK_len (xs.map (Sum.inr : Str → Key)) []
    rw [List.length_map, List.length_nil] at ll
    refine .inl ⟨b, _, xs, rfl, upd_same, foldK_nodup _ [] List.nodup_nil, fun k => by rw [mem_foldK]; simp, by omega, fun p hp => q _ _ _ ((g.more (Ex.new hb)).new _ hp) (.lst upd_same (dt_strs _))⟩
end
/-! ### leans -/
def leansI (st : NbS) (n : Nat) : List Int := sortI (((readsOf (st.cell n).src).filterMap (setterF st n)).map fun m : Nat => (m : Int))
def R_leans (cC cS : Addr) (st : NbS) (ds : List PyData) (o : PyData ⊕ Addr) : Prop := ∃ d, ds = [d] ∧ ((isCellD st d = false ∧ o = .inr cC) ∨ ∃ n ∈ st.row, d = .int ((n : Nat) : Int) ∧ (((st.cell n).struck = true ∧ o = .inr cS) ∨ ((st.cell n).struck = false ∧ (readsOf (st.cell n).src).length < 60 ∧ o = .inl (.list ((leansI st n).map PyData.int)))))
def strOf : PyData → Str
  | .str x => x
  | _ => ""
def notN : PyData → Bool
  | .none => false
  | _ => true
theorem leans_map {st : NbS} {n : Nat} : ∀ l : List Str, (((l.map PyData.str).filter fun _ => true).map fun d => encI (setterF st n (strOf d))).filter notN = ((l.filterMap (setterF st n)).map fun m : Nat => (m : Int)).map PyData.int
  | [] => rfl
  | x :: l => by
    have ih := leans_map (st := st) (n := n) l
    have e : (((x :: l).map PyData.str).filter fun _ => true).map (fun d => encI (setterF st n (strOf d))) = encI (setterF st n x) :: ((l.map PyData.str).filter fun _ => true).map (fun d => encI (setterF st n (strOf d))) := by
      rw [List.map_cons, List.filter_cons, if_pos rfl, List.map_cons]
      rfl
    rw [e, List.filter_cons, List.filterMap_cons, ih]
    cases setterF st n x with
    | none => rfl
    | some m => rfl
end LC

namespace LC
open PySem PySem.Spec PyProof.Rows L2 Evl LamX NdefX
/-! ### the makers' tables, at the end -/
abbrev MkL := List (He.Defn × Str)
def tfOf (Q : MkL) : List He.Defn := Q.map (·.1)
def ttOf (K : Frag) (Q : MkL) : List NTab := Q.map fun p => ((He.cT K p.1).2, fun _ _ => p.2)
def distB (K : Frag) (Q : MkL) : Bool := decide ((Q.map fun p => (He.cT K p.1).2).Nodup)
theorem tt_mem {K : Frag} {Q : MkL} {p : He.Defn} {q : Str} (h : (p, q) ∈ Q) : (((He.cT K p).2, fun _ _ => q) : NTab) ∈ ttOf K Q := List.mem_map.mpr ⟨(p, q), h, rfl⟩
theorem dist_one {K : Frag} : ∀ {Q : MkL} {a b : He.Defn × Str}, (Q.map fun p => (He.cT K p.1).2).Nodup → a ∈ Q → b ∈ Q → (He.cT K a.1).2 = (He.cT K b.1).2 → a = b
  | x :: Q, a, b, nd, ha, hb, e => by
    rw [List.map_cons, List.nodup_cons] at nd
    rcases List.mem_cons.mp ha with ha | ha <;> rcases List.mem_cons.mp hb with hb | hb
    · rw [ha, hb]
    · exact absurd (List.mem_map.mpr ⟨b, hb, by rw [← e, ha]⟩) nd.1
    · exact absurd (List.mem_map.mpr ⟨a, ha, by rw [e, hb]⟩) nd.1
    · exact dist_one nd.2 ha hb e
theorem tt_one {K : Frag} {Q : MkL} {p : He.Defn} {q : Str} (d : distB K Q = true) (h : (p, q) ∈ Q) : ∀ t ∈ ttOf K Q, t.1 = (He.cT K p).2 → t.2 = fun _ _ => q := fun t ht e => by
  obtain ⟨b, hb, rfl⟩ := List.mem_map.mp ht
  have := dist_one (of_decide_eq_true d) hb h e
  rw [this]
theorem code_at {K : Frag} {x q : Str} {st : Stmt} {p : He.Defn} {fd : FuncData} (F : FnP K x q st (He.fAd K p) fd) : fd.code = .ref (He.cT K p).1 := by
  obtain ⟨oc, od, dV, kV, doc, pm, an, cdv, ct, osl, rfl, lk, hcd, _, _⟩ := F.ex
  obtain ⟨c, rfl⟩ := He.codeIn_ref hcd
  show Value.ref c = _
  congr 1
  exact (He.codeOf_eq lk rfl).symm
/-- the law's promise, with tables -/
def spLawT (K : Frag) (TT : List NTab) : Sp := fun vs H Q _ => ∃ (a : Addr) (ns : List Int), vs = [.ref a] ∧ SqL K H a (ns.map V.int) ∧ ns.length ≤ 63 ∧ (∀ p ∈ TT, H p.1 = some (.tbl #[])) ∧ ∀ H', Q (.bl true) H'
theorem lawT {l : PySem.W.OpenLaw} {w : World} {K : Frag} {k : Nat} {mg : Str → Option Value} {fa : Addr} {h : Heap} {Q : MkL} {ts : List He.Tab} {fl : List He.Fa} {fn : List He.DefD} {ex : Frag → Bool} (X : K.In h) (c : He.SaysX fl fn ts (tfOf Q) ex w h K) {fd : FuncData} (hb : ∀ (s : Shared) (v : Value), BindsTo s fd ⟨[v], []⟩ [("script", v)])
    (hF : ∀ base : Heap, K.In base → base.Ns mainGlobals mg → (∀ p ∈ tfOf Q, TabB base mg (He.cT K p).1 (He.cT K p).2) → FnOk l.prog w K mg base CX0 k fa fd ["script"] (spLawT K (ttOf K Q))) : LawAtS l w K CX0 k 63 "script" mg fa h := by
  refine ⟨fd, (tfOf Q).map (He.cT K), spLawT K (ttOf K Q), fun p hp => ?_, fun p hp => ?_, fun p hp => ?_, hb, fun H a ns hl _ hH hS => ⟨a, ns, rfl, hS, hl, fun p hp => ?_, fun _ => rfl⟩, fun base h1 h2 h3 => hF base h1 h2 fun p hp => h3 _ (List.mem_map.mpr ⟨p, hp, rfl⟩)⟩
  · obtain ⟨q, hq, rfl⟩ := List.mem_map.mp hp
    exact c.empty q hq
  · obtain ⟨q, hq, rfl⟩ := List.mem_map.mp hp
    exact c.out q hq
  · obtain ⟨q, hq, rfl⟩ := List.mem_map.mp hp
    exact PySem.W.codeHd_of_K X (c.hd q hq)
  · obtain ⟨q, hq, rfl⟩ := List.mem_map.mp hp
    exact hH _ (List.mem_map.mpr ⟨q.1, List.mem_map.mpr ⟨q, hq, rfl⟩, rfl⟩)
theorem hasMR_never {P : Program} {w : World} {K : Frag} {mg : Str → Option Value} {base : Heap} {CX : CXT} {d : Nat} {C : Addr} {x q m : Str} {st : Stmt} {f : Addr} {fd : FuncData} {ps : List Str} {sp : Sp} (F : FnP K x q st f fd) (g : Meth K C m f) (b : Binds K fd ps []) (hn : ∀ vs H Q E, ¬ sp vs H Q E) : HasMR P w K mg base CX d C m ps sp :=
  ⟨f, fd, ⟨fun vs H Q E z => (hn _ _ _ _ z).elim, fun A out s H ar us vs Q E _ _ _ _ z => (hn _ _ _ _ z).elim⟩, b, g⟩
theorem hasR_never {P : Program} {w : World} {K : Frag} {mg : Str → Option Value} {base : Heap} {CX : CXT} {d : Nat} {x q : Str} {st : Stmt} {f : Addr} {fd : FuncData} {ps : List Str} {sp : Sp} (F : FnP K x q st f fd) (g : mg x = some (.ref f)) (b : Binds K fd ps []) (hn : ∀ vs H Q E, ¬ sp vs H Q E) : HasR P w K mg base CX d x ps sp :=
  ⟨f, fd, ⟨fun vs H Q E z => (hn _ _ _ _ z).elim, fun A out s H ar us vs Q E _ _ _ _ z => (hn _ _ _ _ z).elim⟩, b, F.kp, g⟩
theorem never_dem {K : Frag} {T : NbC} {TT : List NTab} : ∀ vs H Q E, ¬ spDem K T TT 0 vs H Q E := fun vs H Q E ⟨st, M, B, nb, gd, rn, g, n, _, _, _, _, hi, _⟩ => Nat.not_lt_zero _ hi
theorem never_worth {K : Frag} {C : Addr} {mk : NF → Prop} {fr : List Str} {sp : List V → Sp} : ∀ vs H Q E, ¬ spWorth K C mk fr sp 0 vs H Q E := fun vs H Q E ⟨_, _, _, _, _, _, _, _, _, _, _, _, _, _, _, _, _, _, _, _, hd, _⟩ => Nat.not_lt_zero _ hd
/-- a room of levels from a finer one -/
theorem HasMR.toM {P : Program} {w : World} {K : Frag} {mg : Str → Option Value} {base : Heap} {CX : CXT} {d k : Nat} {C : Addr} {m : Str} {ps : List Str} {sp : Sp} (F : HasMR P w K mg base CX d C m ps sp) (h : d + 55 ≤ 3 * k) (h2 : d + 125 ≤ 4 * k) : HasM P w K mg base CX k C m ps sp := by
  obtain ⟨f, fd, F, r⟩ := F
  exact ⟨f, fd, ⟨F.len, fun A out s H ar us vs Q E hr => F.go A out s H ar us vs Q E (Rm.of hr h h2)⟩, r⟩
theorem HasR.toH {P : Program} {w : World} {K : Frag} {mg : Str → Option Value} {base : Heap} {CX : CXT} {d k : Nat} {x : Str} {ps : List Str} {sp : Sp} (F : HasR P w K mg base CX d x ps sp) (h : d + 55 ≤ 3 * k) (h2 : d + 125 ≤ 4 * k) : Has P w K mg base CX k x ps sp := by
  obtain ⟨f, fd, F, r⟩ := F
  exact ⟨f, fd, ⟨F.len, fun A out s H ar us vs Q E hr => F.go A out s H ar us vs Q E (Rm.of hr h h2)⟩, r⟩
end LC

namespace LC
open PySem PySem.Spec PyProof.Rows L2 Evl LamX NdefX
section
variable {K : Frag} {T : NbC} {M : Addr → Prop} {σ : L2.St} {A B H H' : Hp} {nb : Addr} {st : NbS} {te tl ta : TE} {targs : TA} {tt : TT} {j : Nat} {vs : List Nat} {d : PyData} {ds : List PyData} {o : PyData ⊕ Addr} {E : XK} {Q : VK} {D : Ends}
/-- a comprehension over a list that may change, but does not here -/
theorem evb_lcM {xs : List V} {r : Addr} (f : PyData → Bool) (g : PyData → PyData) (x : Ex B H) (h : Ev tl σ H (.ref r)) (hr : H r = some (.lst xs)) (hall : DtAll K B xs ds) (hz : ds.length ≤ 40000) (hw : ∀ x, wipe ((wipe σ vs).set j (some x)) vs = wipe σ vs)
    (ht : ∀ x d H1, Ex H H1 → d ∈ ds → Dt K B x d → EvT tt ((wipe σ vs).set j (some x)) H1 (f d)) (he : ∀ x d H1, Ex H H1 → d ∈ ds → f d = true → Dt K B x d → EvB K te ((wipe σ vs).set j (some x)) B H1 (g d)) :
    EvB K (tLc (iSeq K tl) (gName j) tt te vs) σ B H (.list ((ds.filter f).map g)) := fun H1 e Q q => by
  refine .inl (h H1 e _ fun H2 e2 => ?_)
  have gr : Gr B H1 H2 B := Gr.base (x.trans e) e2
  have eH := e.trans e2
  refine ⟨r, rfl, ⟨xs, sq_of (eH _ _ hr)⟩, fun D hD => ?_⟩
  refine lc_list (K := K) (a := r) (xs := xs) (fun i H' => Acc K B H2 D (((ds.take i).filter f).map g) H') (Acc.nil gr.d2 hD) (fun i H' _ p => sq_of (p.1 _ _ (eH _ _ hr))) (fun i y H' hi p => ?_) fun H' p => ?_
  · obtain ⟨d, hdi, hx⟩ := dpAll_of hall hi
    have hm : d ∈ ds := List.mem_of_getElem? hdi
    have hl := out_len (ds := ds) f g i
    refine ⟨hw y, ?_⟩
    rw [out_snoc f g hdi]
    exact lc_turnE gr.d2 hD p (by omega) (ht y d H2 eH hm hx) (fun hf => he y d H2 eH hm hf hx)
  · have p2 : Acc K B H2 D (((ds.take xs.length).filter f).map g) H' := p
    rw [dpAll_len hall, List.take_length] at p2
    obtain ⟨Hd, g1, g2⟩ := p2.done gr.xd gr.fr gr.ex hD
    exact q _ H' Hd g1 g2
/-- a def that looks at a notebook -/
theorem t_fq {R : NbS → List PyData → (PyData ⊕ Addr) → Prop} (hs : Ev ta σ H (.ref nb)) (hN : NB K T M B H nb st) (hG : NbG st) (ha : EvBs K targs σ B H ds) (hf : R st ds o)
    (k1 : ∀ d, o = .inl d → Rt K B H d Q) (k2 : ∀ c, o = .inr c → ∀ H', Ex H H' → E (.ref c) none H') : tCall (spNq K T R) [] E (tCons ta targs) σ H Q := by
  refine hs H (Ex.refl H) _ fun H1 e1 => ha H1 e1 _ fun ws H2 C g hd => ?_
  have hN2 := (hN.ex e1).gr g
  refine ⟨M, C, nb, st, ws, ds, o, by rw [List.append_nil], hN2, hG, hd, hf, fun d e v H' B' g' hv => k1 d e v H' B' (g.after e1 |>.seq g') hv, fun c e H' e' => k2 c e H' ((e1.trans g.ex).trans e')⟩
theorem evb_fq {R : NbS → List PyData → (PyData ⊕ Addr) → Prop} (hs : Ev ta σ H (.ref nb)) (hN : NB K T M B H nb st) (hG : NbG st) (ha : EvBs K targs σ B H ds) (hf : R st ds (.inl d)) : EvB K (tCall (spNq K T R) [] E (tCons ta targs)) σ B H d := fun H1 e Q q =>
  t_fq (fun H2 e2 => hs H2 (e.trans e2)) (hN.ex e) hG (fun H2 e2 => ha H2 (e.trans e2)) hf (fun d' e' => by cases e'; exact q) fun c e' => by cases e'
end
/-! ### live, needed, stirred -/
def liveL (st : NbS) : List Nat := st.row.filter fun n => !(st.cell n).struck
def leansL (st : NbS) (n : Nat) : List Nat := (nub ((readsOf (st.cell n).src).filterMap (setterF st n))).mergeSort fun a b => decide (a ≤ b)
def needGo (st : NbS) (f : List Nat) (one : Nat) : List Nat := if one ∈ f then f ++ (leansL st one).filter (fun m => !decide (m ∈ f)) else f
def needF (st : NbS) (n : Nat) : List Nat := (liveL st).reverse.foldl (needGo st) [n]
def neededL (st : NbS) (n : Nat) : List Nat := st.row.filter fun m => decide (m ∈ needF st n)
def stirredL (st : NbS) (n : Nat) : List Nat := (liveL st).filter fun m => decide (n ∈ neededL st m)
def FewR (st : NbS) : Prop := ∀ n ∈ st.row, (readsOf (st.cell n).src).length < 60
def R_live (st : NbS) (ds : List PyData) (o : PyData ⊕ Addr) : Prop := ds = [] ∧ o = .inl (natL (liveL st))
def R_liveX (cC cS : Addr) (val : NbS → Nat → PyData) (st : NbS) (ds : List PyData) (o : PyData ⊕ Addr) : Prop := ∃ d, ds = [d] ∧ FewR st ∧ ((isCellD st d = false ∧ o = .inr cC) ∨ ∃ n ∈ st.row, d = .int ((n : Nat) : Int) ∧ (((st.cell n).struck = true ∧ o = .inr cS) ∨ ((st.cell n).struck = false ∧ o = .inl (val st n))))
def R_needed (cC cS : Addr) := R_liveX cC cS fun st n => natL (neededL st n)
def R_stirred (cC cS : Addr) := R_liveX cC cS fun st n => natL (stirredL st n)
theorem liveX_look {cC cS : Addr} {val : NbS → Nat → PyData} {st : NbS} {d : PyData} {o : PyData ⊕ Addr} (h : R_liveX cC cS val st [d] o) : FewR st ∧ ∃ ol, R_look_live cC cS st [d] ol ∧ (∀ c, ol = .inr c → o = .inr c) ∧ (∀ z, ol = .inl z → ∃ n ∈ st.row, d = .int ((n : Nat) : Int) ∧ (st.cell n).struck = false ∧ o = .inl (val st n)) := by
  obtain ⟨d', e, hw, hf⟩ := h
  cases e
  refine ⟨hw, ?_⟩
  rcases hf with ⟨h, ho⟩ | ⟨n, hn, rfl, ⟨h, ho⟩ | ⟨h, ho⟩⟩
  · exact ⟨.inr cC, ⟨d, rfl, .inl ⟨h, rfl⟩⟩, fun c z => by cases z; exact ho, fun z q => by cases q⟩
  · exact ⟨.inr cS, ⟨_, rfl, .inr ⟨n, hn, rfl, .inl ⟨h, rfl⟩⟩⟩, fun c z => by cases z; exact ho, fun z q => by cases q⟩
  · exact ⟨.inl .none, ⟨_, rfl, .inr ⟨n, hn, rfl, .inr ⟨h, rfl⟩⟩⟩, fun c z => (nomatch z), fun z q => ⟨n, hn, rfl, h, ho⟩⟩
def natOf : PyData → Nat
  | .int i => i.toNat
  | _ => 0
theorem natL_filter (p : Nat → Bool) : ∀ l : List Nat, (((l.map fun m : Nat => PyData.int (m : Int)).filter fun d => p (natOf d)).map id) = (l.filter p).map fun m : Nat => PyData.int (m : Int)
  | [] => rfl
  | x :: l => by
    have ih := natL_filter p l
    rw [List.map_id] at ih ⊢
    rw [List.map_cons, List.filter_cons, List.filter_cons, ih]
    have e : natOf (.int (x : Int)) = x := Int.toNat_natCast x
    rw [e]
    split <;> rfl
theorem nodup_cast {l : List Nat} (h : l.Nodup) : (l.map fun m : Nat => (m : Int)).Nodup := by
  unfold List.Nodup at h ⊢
  rw [List.pairwise_map]
  exact h.imp fun z w => z (by omega)
theorem leansL_spec (st : NbS) (n : Nat) : (leansL st n).Nodup ∧ (∀ m, m ∈ leansL st n ↔ m ∈ (readsOf (st.cell n).src).filterMap (setterF st n)) ∧ (leansL st n).Pairwise (· ≤ ·) := by
  have p := List.mergeSort_perm (nub ((readsOf (st.cell n).src).filterMap (setterF st n))) (fun a b => decide (a ≤ b))
  refine ⟨p.nodup_iff.mpr (nub_nodup _), fun m => ?_, ?_⟩
  · exact p.mem_iff.trans (mem_nub m _)
  · have h := List.pairwise_mergeSort (le := fun a b : Nat => decide (a ≤ b)) (by intro a b c h1 h2; simp at h1 h2 ⊢; omega) (by intro a b; simp; omega) (nub ((readsOf (st.cell n).src).filterMap (setterF st n)))
    exact h.imp fun z => by simpa using z
theorem leansI_eq (st : NbS) (n : Nat) : leansI st n = (leansL st n).map fun m : Nat => (m : Int) := by
  obtain ⟨h1, h2, h3⟩ := leansL_spec st n
  refine (sortI_eq (nodup_cast h1) (fun x => ?_) ?_).symm
  · rw [List.mem_map, List.mem_map]
    constructor
    · rintro ⟨m, hm, rfl⟩
      exact ⟨m, (h2 m).mp hm, rfl⟩
    · rintro ⟨m, hm, rfl⟩
      exact ⟨m, (h2 m).mpr hm, rfl⟩
  · rw [List.pairwise_map]
    exact h3.imp fun z => by omega
theorem leans_natL (st : NbS) (n : Nat) : PyData.list ((leansI st n).map PyData.int) = natL (leansL st n) := by
  rw [leansI_eq, List.map_map]
  rfl
theorem dpAll_rev {K : Frag} {H : Hp} : ∀ {xs : List V} {ds : List PyData}, DtAll K H xs ds → DtAll K H xs.reverse ds.reverse
  | _, _, .nil => .nil
  | _, _, .cons a b => by
    rw [List.reverse_cons, List.reverse_cons]
    exact dpAll_app (dpAll_rev b) (.cons a .nil)
theorem leansL_len (st : NbS) (n : Nat) : (leansL st n).length ≤ (readsOf (st.cell n).src).length := by
  unfold leansL
  rw [List.length_mergeSort]
  exact Nat.le_trans (nub_len _) (List.length_filterMap_le _ _)
section
variable {K : Frag} {σ : L2.St} {B H : Hp} {te ta : TE} {ds : List PyData} {D : Ends}
theorem evb_revL (h : EvB K te σ B H (.list ds)) : EvB K (tRevL K te) σ B H (.list ds.reverse) := fun H1 e Q q => h H1 e _ fun v H2 A g hd => by
  obtain ⟨a, xs, rfl, hs, hall⟩ := dp_lst hd
  exact ⟨a, xs, rfl, sq_of (g.d2 _ _ hs), fun p hp => q _ _ _ (g.new _ hp) (.lst upd_same (dpAll_ex (Ex.new (fresh_back g.d2 hp)) _ _ (dpAll_rev hall)))⟩
theorem s_extB {p : Addr} {xs : List V} (hp : H p = some (.lst xs)) (ha : Ev ta σ H (.ref p)) (h : EvB K te σ B H (.list ds)) (hl : xs.length + ds.length ≤ 100000)
    (k : ∀ H1 Hd zs, Gr B H H1 Hd → DtAll K Hd zs ds → D.nx σ (upd H1 p (.lst (xs ++ zs)))) : tDrop (tBM K "list" rExtend ta (tCons te tNil)) D σ H := ha H (Ex.refl H) _ fun H1 e1 =>
  ⟨.inl ⟨rfl, xs, sq_of (e1 _ _ hp)⟩, h H1 e1 _ fun v H2 C gr hd => by
    obtain ⟨b, zs, rfl, hb, hall⟩ := dp_lst hd
    exact ⟨p, b, xs, zs, rfl, rfl, (e1.trans gr.ex) _ _ hp, gr.d2 _ _ hb, by rw [dpAll_len hall]; exact sz_of hl, k H2 C zs (gr.after e1) hall⟩⟩
end
/-! ### a call that is known not to raise -/
def calmS (sp : Sp) : Sp := fun vs H Q _ => sp vs H Q E0
section
variable {P : Program} {w : World} {K : Frag} {mg : Str → Option Value} {base : Heap} {k : Nat} {f C : Addr} {fd : FuncData} {ps : List Str} {sp : Sp} {x m : Str}
theorem fnOk_calm (F : FnOk P w K mg base (L2.CX P w) k f fd ps sp) : FnOk P w K mg base CX0 k f fd ps (calmS sp) := ⟨fun vs H Q E z => F.len vs H Q E0 z, fun A outer s H ar us vs Q E hr e0 b v z => by
  refine codeAny_mono (F.run A outer s H ar us vs Q E0 hr e0 b v z) fun res s' y => ?_
  match res, y with
  | .error er, y =>
    obtain ⟨_, _, _, _, _, _, _, _, _, _, _, _, h⟩ := y
    exact h.elim
  | .ok (.ret u), y => exact y
  | .ok .next, y => exact y
  | .ok .brk, y => exact y
  | .ok .cont, y => exact y⟩
theorem Has.calm (F : Has P w K mg base (L2.CX P w) k x ps sp) : Has P w K mg base CX0 k x ps (calmS sp) := by
  obtain ⟨f, fd, F, r⟩ := F
  exact ⟨f, fd, fnOk_calm F, r⟩
theorem HasM.calm (F : HasM P w K mg base (L2.CX P w) k C m ps sp) : HasM P w K mg base CX0 k C m ps (calmS sp) := by
  obtain ⟨f, fd, F, r⟩ := F
  exact ⟨f, fd, fnOk_calm F, r⟩
end
section
variable {K : Frag} {T : NbC} {M : Addr → Prop} {σ : L2.St} {B H : Hp} {nb : Addr} {st : NbS} {ta : TE} {targs : TA} {d : PyData} {ds : List PyData} {E : XK} {EE : L2.St → XK} {m : Str}
theorem evb_fqC {R : NbS → List PyData → (PyData ⊕ Addr) → Prop} (hs : Ev ta σ H (.ref nb)) (hN : NB K T M B H nb st) (hG : NbG st) (ha : EvBs K targs σ B H ds) (hf : R st ds (.inl d)) : EvB K (tCall (calmS (spNq K T R)) [] E (tCons ta targs)) σ B H d := evb_fq (E := E0) hs hN hG ha hf
theorem evb_qC {R : NbS → List PyData → (PyData ⊕ Addr) → Prop} (nf : NoF m) (hs : Ev ta σ H (.ref nb)) (hN : NB K T M B H nb st) (hG : NbG st) (ha : EvBs K targs σ B H ds) (hf : R st ds (.inl d)) : EvB K (tMet T.N m (calmS (spNq K T R)) EE ta targs) σ B H d := evb_q (E := fun _ => E0) nf hs hN hG ha hf
end
end LC

namespace LC
open PySem L2
/-! ### plain runs: what is visited, what is fresh -/
section
variable {st : NbS} {n : Nat} {g : List Nat}
theorem visit_in (k : Nat) (h : n ∈ g) : visit st k n g = g := by
  cases k with
  | zero => rfl
  | succ k => rw [visit_succ, if_pos h]
theorem visName_in (k : Nat) {x : Str} (h : ∀ m, setterF st n x = some m → m ∈ g) : visName st k n x g = g := by
  unfold visName
  split
  · rfl
  · rename_i m hm
    exact visit_in k (h m hm)
/-- all that it may ask is visited already -/
theorem visit_known (k : Nat) (hn : n ∉ g) (h : ∀ x m, setterF st n x = some m → m ∈ g) : visit st (k + 1) n g = g ++ [n] := by
  have hs : (standB st (visName st k n) n g).2 = g := by
    have go : ∀ as : Asked, (standGo (visName st k n) (knownAt st n) as g).2 = g := by
      intro as
      induction as with
      | nil => rfl
      | cons q r ih =>
        obtain ⟨x, v⟩ := q
        unfold standGo
        rw [visName_in k (h x)]
        split
        · exact ih
        · rfl
    unfold standB
    split
    · rfl
    · split
      · exact go _
      · rfl
  have hd : (doneM (stepG (visName st k n) (knownAt st n)) (st.cell n).src [] [] ((standB st (visName st k n) n g).2, [])).2.1 = g := by
    refine doneM_inv (step := stepG (visName st k n) (knownAt st n)) (fun s => s.1 = g) (fun s x hsx => ?_) (st.cell n).src [] [] _ hs
    show visName st k n x s.1 = g
    rw [hsx]
    exact visName_in k (h x)
  rw [visit_succ, if_neg hn, hs] at *
  rw [hs] at hd
  rw [hd]
  split <;> rfl
end
theorem take_idx {l : List Nat} {i n : Nat} (nd : l.Nodup) (h : l[i]? = some n) : l.idxOf n = i := by
  obtain ⟨hi, e⟩ := List.getElem?_eq_some_iff.mp h
  rw [← e]
  exact nd.idxOf_getElem i hi
theorem visitAll_take {st : NbS} (nd : st.row.Nodup) : ∀ i, i ≤ st.row.length → visitAll st (st.row.take i) [] = (st.row.take i).filter fun n => !(st.cell n).struck := by
  intro i
  induction i with
  | zero => intro _; rfl
  | succ i ih =>
    intro hi
    have hq : st.row[i]? = some st.row[i] := List.getElem?_eq_getElem hi
    have e : st.row.take (i + 1) = st.row.take i ++ [st.row[i]] := by rw [List.take_add_one, hq]; rfl
    rw [e, visitAll_app, ih (by omega), List.filter_append]
    cases hst : (st.cell st.row[i]).struck with
    | true => simp [hst]
    | false =>
      have ix : st.row.idxOf st.row[i] = i := take_idx nd hq
      have hf : [st.row[i]].filter (fun n => !(st.cell n).struck) = [st.row[i]] := by simp [hst]
      rw [hf, if_neg (fun z => nomatch z)]
      refine visit_known 30 (fun hm => ?_) fun x m hm => ?_
      · have h1 := (List.mem_filter.mp hm).1
        obtain ⟨j, hj⟩ := List.mem_iff_getElem?.mp h1
        have hj2 : j < i := by
          have := (List.getElem?_eq_some_iff.mp hj).1
          rw [List.length_take] at this
          omega
        rw [List.getElem?_take_of_lt hj2] at hj
        have := take_idx nd hj
        omega
      · obtain ⟨h1, h2⟩ := setterL_mem _ hm
        unfold ahead at h1
        rw [ix] at h1
        refine List.mem_filter.mpr ⟨h1, ?_⟩
        unfold setsB at h2
        rw [Bool.and_eq_true] at h2
        exact h2.1
/-- a run of all visits the cells that are not struck, in order -/
theorem visitAll_live {st : NbS} (nd : st.row.Nodup) : visitAll st st.row [] = liveL st := by
  have := visitAll_take nd st.row.length (Nat.le_refl _)
  rw [List.take_length] at this
  exact this
/-! ### records that a run makes -/
theorem doneM_len {S : Type} {step : S → Str → Option Int × S} : ∀ (src : Src) (f : List Int) (m : List (Str × Int)) (s : S), (doneM step src f m s).1.mine.length ≤ m.length + src.length
  | [], f, m, s => Nat.le_refl _
  | r :: src, f, m, s => by
    cases q : worthM step m r.sum s with
    | mk o s1 =>
      cases o with
      | error y => rw [doneM_fail q]; exact Nat.zero_le _
      | ok i =>
        cases r with
        | set x q0 =>
          rw [doneM_set (q := q0) q]
          have h1 := doneM_len (step := step) src f (putP m x i) s1
          have h2 := putP_len m x i
          rw [List.length_cons]
          omega
        | shw q0 =>
          rw [doneM_shw (q := q0) q]
          have h1 := doneM_len (step := step) src (f ++ [i]) m s1
          rw [List.length_cons]
          omega
theorem runA_names (known : Str → Option Int) (src : Src) : ((runA known src).2.map (·.1)).Nodup ∧ ∀ x ∈ (runA known src).2.map (·.1), x ∈ srcNames src := by
  refine doneM_names (step := stepA known) (Nm := srcNames src) (fun s => (s.map (·.1)).Nodup ∧ ∀ x ∈ s.map (·.1), x ∈ srcNames src) (fun s x hx h => ?_) src [] [] [] (fun r hr x hx => List.mem_flatMap.mpr ⟨r, hr, hx⟩) ⟨List.nodup_nil, fun x h => nomatch h⟩
  refine ⟨noteA_names h.1, fun y hy => ?_⟩
  rcases noteA_mem hy with z | z
  · exact h.2 y z
  · rw [z]; exact hx
theorem runA_asks {known : Str → Option Int} {src : Src} (hg : goodS src = true) : (runA known src).2.length ≤ 6000 ∧ ∀ q ∈ (runA known src).2, nameS q.1 = true ∧ known q.1 = q.2 := by
  obtain ⟨h1, h2⟩ := runA_names known src
  refine ⟨?_, fun q hq => ⟨srcNames_good hg _ (h2 _ (List.mem_map_of_mem hq)), runA_asked known src q hq⟩⟩
  have := nodup_len h1 h2
  rw [List.length_map] at this
  exact Nat.le_trans this (srcNames_len hg)
/-- a record as a run makes it -/
theorem recV_pure {st : NbS} (G : NbG st) {n : Nat} (hn : n ∈ st.row) : ValidR (pureRec st n) ∧ goodS (pureRec st n).lines = true ∧ (pureRec st n).asked.length ≤ 10000 ∧ (∀ q ∈ (pureRec st n).asked, nameS q.1 = true ∧ ∀ i, q.2 = some i → InR i) ∧ (pureRec st n).sets.length ≤ 8 := by
  have hg := G.good n hn
  obtain ⟨h1, h2⟩ := runA_asks (known := knownAt st n) hg
  refine ⟨pure_valid st n, hg, by show (pureRun st n).2.length ≤ _; exact Nat.le_trans h1 (by decide), fun q hq => ⟨(h2 q hq).1, fun i hi => known_in G (n := n) (x := q.1) (by rw [(h2 q hq).2]; exact hi)⟩, ?_⟩
  have := doneM_len (step := stepA (knownAt st n)) (st.cell n).src [] [] []
  have h8 := goodS_len hg
  show (runA (knownAt st n) (st.cell n).src).1.mine.length ≤ 8
  unfold runA
  simp only [List.length_nil] at this
  omega
theorem Sit.mix {st : NbS} (S : Sit st) (g : List Nat) : Sit (mix st g) := by
  refine ⟨S.G.mix, fun n hn r hr => ?_⟩
  have hn' : n ∈ st.row := hn
  by_cases h : n ∈ g
  · rw [mix_rec_in h] at hr
    cases hr
    exact recV_pure S.G hn'
  · rw [mix_rec_out h] at hr
    exact S.V n hn' r hr
/-! ### numbers do not hang on records -/
theorem knownL_mix (st : NbS) (g : List Nat) : ∀ l, knownL (mix st g) l = knownL st l := fun l => by
  unfold knownL
  congr 1
  funext known m x
  unfold knownGo
  rw [mix_setsB, mix_src]
theorem knownAt_mix (st : NbS) (g : List Nat) (n : Nat) : knownAt (mix st g) n = knownAt st n := knownL_mix st g _
theorem pureRun_mix (st : NbS) (g : List Nat) (n : Nat) : pureRun (mix st g) n = pureRun st n := by
  unfold pureRun
  rw [knownAt_mix, mix_src]
theorem pureRec_mix (st : NbS) (g : List Nat) (n : Nat) : pureRec (mix st g) n = pureRec st n := by
  unfold pureRec
  rw [pureRun_mix, mix_src]
/-! ### what is fresh -/
theorem holds_stands {st : NbS} (nd : st.row.Nodup) {n : Nat} {fr : List Nat} (hf : ∀ m ∈ fr, (st.cell m).recd = some (pureRec st m)) (h : holdsB st n fr = true) : standsB st n = true := by
  unfold holdsB at h
  unfold standsB
  cases hr : (st.cell n).recd with
  | none => rw [hr] at h; cases h
  | some r =>
    rw [hr] at h
    dsimp only at h ⊢
    rw [Bool.and_eq_true, List.all_eq_true] at h ⊢
    refine ⟨h.1, fun q hq => ?_⟩
    have ha := h.2 q hq
    refine decide_eq_true ?_
    rw [known_setter nd]
    unfold okAsk at ha
    cases hs : setterF st n q.1 with
    | none =>
      rw [hs] at ha
      exact (of_decide_eq_true ha).symm
    | some m =>
      rw [hs] at ha
      dsimp only at ha ⊢
      rw [Bool.and_eq_true, decide_eq_true_eq, decide_eq_true_eq] at ha
      rw [ha.2]
      show _ = (match (st.cell m).recd with | none => none | some r => r.sets.lookup q.1)
      rw [hf m ha.1]
/-- who is fresh shows what a run shows -/
theorem fresh_pure {st : NbS} (S : Sit st) : ∀ n ∈ freshL st, n ∈ st.row ∧ (st.cell n).struck = false ∧ (st.cell n).recd = some (pureRec st n) := by
  have go : ∀ i, i ≤ st.row.length → ∀ n ∈ freshGo st (st.row.take i), (st.cell n).recd = some (pureRec st n) := by
    intro i
    induction i with
    | zero => intro _ n h; cases h
    | succ i ih =>
      intro hi n hn
      have hq : st.row[i]? = some st.row[i] := List.getElem?_eq_getElem hi
      have e : st.row.take (i + 1) = st.row.take i ++ [st.row[i]] := by rw [List.take_add_one, hq]; rfl
      rw [e, freshGo_snoc] at hn
      split at hn
      · rename_i h
        rcases List.mem_append.mp hn with z | z
        · exact ih (by omega) n z
        · have ez := List.mem_singleton.mp z
          subst ez
          rw [Bool.and_eq_true] at h
          have hs := holds_stands S.G.nd (ih (by omega)) h.2
          obtain ⟨r, hr⟩ := holds_rec h.2
          rw [hr, stand_pure hr (S.V _ (List.getElem_mem _) r hr).1 hs]
      · exact ih (by omega) n hn
  intro n hn
  have h1 := freshGo_sub st st.row n hn
  have h2 := go st.row.length (Nat.le_refl _) n (by rw [List.take_length]; exact hn)
  exact ⟨h1.1, h1.2.1, h2⟩
theorem pure_holds {st : NbS} (nd : st.row.Nodup) {n : Nat} {fr : List Nat} (hr : (st.cell n).recd = some (pureRec st n)) (hf : ∀ q ∈ (pureRec st n).asked, ∀ m, setterF st n q.1 = some m → m ∈ fr ∧ (st.cell m).recd = some (pureRec st m)) : holdsB st n fr = true := by
  unfold holdsB
  rw [hr]
  dsimp only
  rw [Bool.and_eq_true, List.all_eq_true]
  refine ⟨decide_eq_true rfl, fun q hq => ?_⟩
  have hk : knownAt st n q.1 = q.2 := runA_asked (knownAt st n) (st.cell n).src q hq
  rw [known_setter nd] at hk
  unfold okAsk
  cases hs : setterF st n q.1 with
  | none =>
    rw [hs] at hk
    exact decide_eq_true hk.symm
  | some m =>
    rw [hs] at hk
    obtain ⟨h1, h2⟩ := hf q hq m hs
    dsimp only at hk ⊢
    rw [Bool.and_eq_true, decide_eq_true_eq, decide_eq_true_eq]
    refine ⟨h1, ?_⟩
    rw [← hk]
    show _ = (match (st.cell m).recd with | none => none | some r => r.sets.lookup q.1)
    rw [h2]
/-- all are fresh, if all have the record of a run -/
theorem fresh_all {st : NbS} (nd : st.row.Nodup) (h : ∀ n ∈ liveL st, (st.cell n).recd = some (pureRec st n)) : freshL st = liveL st := by
  have go : ∀ i, i ≤ st.row.length → freshGo st (st.row.take i) = (st.row.take i).filter fun n => !(st.cell n).struck := by
    intro i
    induction i with
    | zero => intro _; rfl
    | succ i ih =>
      intro hi
      have hq : st.row[i]? = some st.row[i] := List.getElem?_eq_getElem hi
      have e : st.row.take (i + 1) = st.row.take i ++ [st.row[i]] := by rw [List.take_add_one, hq]; rfl
      rw [e, freshGo_snoc, ih (by omega), List.filter_append]
      cases hst : (st.cell st.row[i]).struck with
      | true => simp [hst]
      | false =>
        have hlv : st.row[i] ∈ liveL st := List.mem_filter.mpr ⟨List.getElem_mem _, by rw [hst]; rfl⟩
        have hh := pure_holds (fr := (st.row.take i).filter fun n => !(st.cell n).struck) nd (h _ hlv) (fun q hq2 m hm => by
          obtain ⟨h1, h2⟩ := setterL_mem _ hm
          unfold ahead at h1
          rw [take_idx nd hq] at h1
          unfold setsB at h2
          rw [Bool.and_eq_true] at h2
          exact ⟨List.mem_filter.mpr ⟨h1, h2.1⟩, h m (List.mem_filter.mpr ⟨List.mem_of_mem_take h1, h2.1⟩)⟩)
        rw [hh]
        simp [hst]
  have := go st.row.length (Nat.le_refl _)
  rw [List.take_length] at this
  exact this
theorem live_mix (st : NbS) (g : List Nat) : liveL (mix st g) = liveL st := by
  unfold liveL
  show st.row.filter _ = st.row.filter _
  congr 1
  funext n
  rw [mix_struck]
/-- behind a run of all, all are fresh -/
theorem fresh_run_all {st : NbS} (S : Sit st) : freshL (mix st (visitAll st st.row [])) = liveL st := by
  have nd := S.G.nd
  rw [visitAll_live nd]
  refine (fresh_all (st := mix st (liveL st)) nd fun n hn => ?_).trans (live_mix st _)
  rw [live_mix] at hn
  rw [mix_rec_in hn, pureRec_mix]
end LC

namespace LC
open PySem PySem.Spec PyProof.Rows L2 Evl LamX NdefX
/-! ### the law's own sums: a closure that tells a number or None -/
structure LAsks (K : Frag) (mk : NF → Prop) (fr : List Str) (sp : List V → Sp) (fa : Addr) (S : Type) (J : JT S) (step : S → Str → Option Int × S) (Nm : List Str) : Prop where
  x : ∀ {s M B H}, J s M B H → Ex B H
  m : ∀ {s M B H}, J s M B H → ∀ a, M a → B a = none ∧ H a ≠ none
  gr : ∀ {s M B H B' H'}, J s M B H → Gr B H H' B' → J s M B' H'
  out : ∀ {s M B H} {p : Addr}, J s M B H → B p = none → ¬ M p → ((∃ k, H p = some (.dK k)) ∨ ∃ l, H p = some (.lst l)) → ∀ o, J s M B (upd H p o)
  add : ∀ {s M B H} {p : Addr} {o : HO}, J s M B H → B p = none → ¬ M p → H p = some o → ((∃ k, o = .dK k) ∨ (∃ l, o = .lst l) ∨ ∃ l, o = .tup l) → J s M (upd B p o) H
  call : ∀ {s M B H x Q E}, J s M B H → x ∈ Nm → (∀ H' B' M', Fr M M' B H H' B' → J (step s x).2 M' B' H' → Q (encOV (step s x).1) H') → AskCall mk fr sp fa x H Q E
  rng : ∀ {s x i s1}, step s x = (some i, s1) → InR i
theorem LAsks.ex {K : Frag} {mk : NF → Prop} {fr : List Str} {sp : List V → Sp} {fa : Addr} {S : Type} {J : JT S} {step : S → Str → Option Int × S} {Nm : List Str} (A : LAsks K mk fr sp fa S J step Nm) {s : S} {M : Addr → Prop} {B H H' : Hp} (j : J s M B H) (e : Ex H H') : J s M B H' := A.gr j (Gr.base (A.x j) e)
def outW : Except Why Int → PyData
  | .ok i => .tuple [.int i, .none]
  | .error y => .tuple [.int 0, encWhy (some y)]
def spLW (K : Frag) (mk : NF → Prop) (fr : List Str) (sp : List V → Sp) (n : Nat) : Sp := fun vs H Q E => ∃ (S : Type) (J : JT S) (step : S → Str → Option Int × S) (fa pm : Addr) (v va : V) (m : Sm) (mine : List (Str × Int)) (M : Addr → Prop) (B : Hp) (s0 : S) (Nm : List Str),
  vs = [v, .ref pm, va] ∧ LAsks K mk fr sp fa S J step Nm ∧ (∀ x ∈ m.names, mine.lookup x ≠ none ∨ (x ∈ Nm ∧ va = .ref fa)) ∧ J s0 M B H ∧ Own M B H pm (.dK (encM mine)) ∧ (∀ x i, mine.lookup x = some i → InR i) ∧ Dt K B v m.enc ∧ m.good = true ∧ m.depth < n ∧
  (∀ u H' B' M', Fr M M' B H H' B' → J (worthM step mine m s0).2 M' B' H' → Dt K B' u (outW (worthM step mine m s0).1) → Q u H')
theorem never_lw {K : Frag} {mk : NF → Prop} {fr : List Str} {sp : List V → Sp} : ∀ vs H Q E, ¬ spLW K mk fr sp 0 vs H Q E := fun vs H Q E ⟨_, _, _, _, _, _, _, _, _, _, _, _, _, _, _, _, _, _, _, _, _, hd, _⟩ => Nat.not_lt_zero _ hd
/-- a tuple that is returned -/
theorem LAsks.ret {K : Frag} {mk : NF → Prop} {fr : List Str} {sp : List V → Sp} {fa : Addr} {S : Type} {J : JT S} {step : S → Str → Option Int × S} {Nm : List Str} (A : LAsks K mk fr sp fa S J step Nm) {s : S} {M M0 : Addr → Prop} {B B0 H H0 : Hp} {σ : L2.St} {te : TE} {d : PyData} {Q : VK} (j : J s M B H) (f : Fr M0 M B0 H0 H B) (h : EvB K te σ B H d)
    (k : ∀ u H' B' M', Fr M0 M' B0 H0 H' B' → J s M' B' H' → Dt K B' u d → Q u H') : te σ H Q := h H (Ex.refl H) _ fun v H2 Hd g hd => k v H2 Hd M (f.trans (Fr.of g)) (A.gr j g) hd
/-! ### a dict display that is looked up at once -/
def PEv (trs : List (TE × TE)) (σ : L2.St) (H : Hp) (kvs : List (Key × V)) : Prop := ∀ H1, Ex H H1 → ∀ Q : List (V × V) → Hp → Prop, (∀ H2, Ex H1 H2 → Q (kvs.map fun kv => (kV kv.1, kv.2)) H2) → tPairs trs σ H1 Q
theorem pev_nil {σ : L2.St} {H : Hp} : PEv [] σ H [] := fun H1 e Q q => q H1 (Ex.refl H1)
theorem pev_cons {σ : L2.St} {H : Hp} {tk tv : TE} {trs : List (TE × TE)} {kvs : List (Key × V)} {k : Key} {v : V} (hk : Ev tk σ H (kV k)) (hv : Ev tv σ H v) (hr : PEv trs σ H kvs) : PEv ((tk, tv) :: trs) σ H ((k, v) :: kvs) := fun H1 e Q q =>
  hk H1 e _ fun H2 e2 => hv H2 (e.trans e2) _ fun H3 e3 => hr H3 ((e.trans e2).trans e3) _ fun H4 e4 => q H4 ((e2.trans e3).trans e4)
theorem ev_disp {σ : L2.St} {H : Hp} {trs : List (TE × TE)} {ty : TE} {kvs : List (Key × V)} {k : Key} {v : V} (h : PEv trs σ H kvs) (hl : kvs.length ≤ 15) (hk : Ev ty σ H (kV k)) (hv : valV (mergeK [] kvs) k = some v) : Ev (tDGet (tDisp trs) ty) σ H v := fun H1 e Q q p hp => by
  refine h _ (e.trans (Ex.new hp)) _ fun H2 e2 => ⟨e2 _ _ upd_same, kvs, rfl, hl, ?_⟩
  have x2 : Ex H1 (upd H2 p (.dK (mergeK [] kvs))) := ex_upd ((Ex.new hp).trans e2) hp
  exact hk _ (e.trans x2) _ fun H3 e3 => ⟨p, v, rfl, hv ▸ DGet.k (k := k) (e3 _ _ upd_same), q H3 (x2.trans e3)⟩
def F_lreck (ds : List PyData) (d : PyData) : Prop := ∃ (w : Str) (i j : Int), ds = [.str w, .int i, .int j] ∧ w ∈ wordsS ∧ InR i ∧ InR j ∧ d = outW (reck w i j)
section
variable {K : Frag} {mk : NF → Prop} {fr : List Str} {sp : List V → Sp} {S : Type} {J : JT S} {step : S → Str → Option Int × S} {Nm : List Str} {fa pm : Addr} {va : V} {s0 : S} {M : Addr → Prop} {B H : Hp} {ES : L2.St → XK} {σ : L2.St} {te : TE} {m : Sm} {mine : List (Str × Int)} {n : Nat} {Q : VK}
theorem t_lw {im ia : Nat} (A : LAsks K mk fr sp fa S J step Nm) (h1 : σ[im]? = some (some (.ref pm))) (h2 : σ[ia]? = some (some va)) (h : EvB K te σ B H m.enc) (j : J s0 M B H) (w : Own M B H pm (.dK (encM mine))) (hm : ∀ x i, mine.lookup x = some i → InR i) (hN : ∀ x ∈ m.names, mine.lookup x ≠ none ∨ (x ∈ Nm ∧ va = .ref fa)) (hg : m.good = true) (hd : m.depth < n)
    (k : ∀ u H' B' M', Fr M M' B H H' B' → J (worthM step mine m s0).2 M' B' H' → Dt K B' u (outW (worthM step mine m s0).1) → Q u H') : tCallS (spLW K mk fr sp n) ES (tCons te (tCons (tVar im) (tCons (tVar ia) tNil))) σ H Q := by
  refine h H (Ex.refl H) _ fun v H1 B1 g1 d1 => ⟨.ref pm, h1, va, h2, ?_⟩
  exact ⟨S, J, step, fa, pm, v, va, m, mine, M, B1, s0, Nm, rfl, A, hN, A.gr j g1, w.gr g1, hm, d1, hg, hd, fun u H' B' M' f jj du => k u H' B' M' ((Fr.of g1).trans f) jj du⟩
end
theorem why_not {K : Frag} {H : Hp} {v : V} {y : Why} (h : Dt K H v (encWhy (some y))) : v ≠ .non := by
  obtain ⟨a, xs, rfl, _⟩ := dp_tup (ds := [.str y.1, encN y.2]) h
  exact fun z => nomatch z
/-! ### the law's own done -/
def spLD (K : Frag) (mk : NF → Prop) (fr : List Str) (sp : List V → Sp) : Sp := fun vs H Q _ => ∃ (S : Type) (J : JT S) (step : S → Str → Option Int × S) (fa : Addr) (v : V) (src : Src) (M : Addr → Prop) (B : Hp) (s0 : S) (Nm : List Str),
  vs = [v, .ref fa] ∧ LAsks K mk fr sp fa S J step Nm ∧ (∀ r ∈ src, ∀ x ∈ r.sum.names, x ∈ Nm) ∧ J s0 M B H ∧ Dt K B v (encS src) ∧ goodS src = true ∧
  ∀ r s1, doneM step src [] [] s0 = (r, s1) → ∀ tp pf pm wv H' B' M', Fr M M' B H H' B' → J s1 M' B' H' → B' tp = some (.tup [.ref pf, .ref pm, wv]) → B' pf = some (.lst (r.shown.map V.int)) → B' pm = some (.dK (encM r.mine)) → Dt K B' wv (encWhy r.why) → H tp = none → H pf = none → H pm = none → Q (.ref tp) H'
section
variable {K : Frag} {mk : NF → Prop} {fr : List Str} {sp : List V → Sp} {S : Type} {J : JT S} {step : S → Str → Option Int × S} {Nm : List Str} {fa pm pf : Addr} {s1 : S} {M M' : Addr → Prop} {B B' H H' : Hp} {Q : VK} {l : List V} {k : List (Key × V)} {wv : V} {d : PyData}
theorem ldone_end (A : LAsks K mk fr sp fa S J step Nm) (f : Fr M M' B H H' B') (j : J s1 M' B' H') (of : Own M' B' H' pf (.lst l)) (om : Own M' B' H' pm (.dK k)) (nf : H pf = none) (nm : H pm = none) (dw : Dt K B' wv d)
    (h : ∀ tp H'' B'', Fr M M' B H H'' B'' → J s1 M' B'' H'' → B'' tp = some (.tup [.ref pf, .ref pm, wv]) → B'' pf = some (.lst l) → B'' pm = some (.dK k) → Dt K B'' wv d → H tp = none → Q (.ref tp) H'') : ∀ tp, H' tp = none → Q (.ref tp) (upd H' tp (.tup [.ref pf, .ref pm, wv])) := by
  intro tp htp
  have ne : pf ≠ pm := ne_of of.h om.h fun z => by cases z
  have j1 := A.add j of.b of.m of.h (.inr (.inl ⟨l, rfl⟩))
  have bm : upd B' pf (.lst l) pm = none := by rw [upd_ne (Ne.symm ne)]; exact om.b
  have j2 := A.add j1 bm om.m om.h (.inl ⟨k, rfl⟩)
  have f2 := (f.add nf of.h of.b).add nm om.h bm
  have g : Gr (upd (upd B' pf (.lst l)) pm (.dK k)) H' (upd H' tp (.tup [.ref pf, .ref pm, wv])) (upd (upd (upd B' pf (.lst l)) pm (.dK k)) tp (.tup [.ref pf, .ref pm, wv])) := (Gr.base (A.x j2) (Ex.refl _)).new _ htp
  have tf : pf ≠ tp := ne_of_none of.h htp
  have tm : pm ≠ tp := ne_of_none om.h htp
  have bt : upd (upd B' pf (.lst l)) pm (.dK k) tp = none := fresh_back (A.x j2) htp
  refine h tp _ _ (f2.trans (Fr.of g)) (A.gr j2 g) upd_same ?_ ?_ (dp_ex (((Ex.new of.b).trans (Ex.new bm)).trans (Ex.new bt)) _ _ dw) ?_
  · rw [upd_ne tf, upd_ne ne, upd_same]
  · rw [upd_ne tm, upd_same]
  · cases q : H tp with
    | none => rfl
    | some o => exact absurd htp (f.stay tp (by rw [q]; exact fun z => nomatch z))
end
end LC

namespace LC
open PySem PySem.Spec PyProof.Rows L2 Evl LamX NdefX
/-! ### states by what is known: slots, objects apart from one another, data that stay -/
def Pl3 (o : Option HO) : Prop := (∃ C dx fs, o = some (.ins C dx fs)) ∨ (∃ k, o = some (.dK k)) ∨ ∃ l, o = some (.lst l)
theorem Pl3.ex {o : Option HO} (h : Pl3 o) : ∃ u, o = some u := by
  rcases h with ⟨C, dx, fs, h⟩ | ⟨k, h⟩ | ⟨l, h⟩ <;> exact ⟨_, h⟩
theorem Pl3.ne {o : Option HO} (h : Pl3 o) : o ≠ none := by
  obtain ⟨u, h⟩ := h.ex
  rw [h]
  exact fun z => nomatch z
theorem Pl3.stay {H H' : Hp} {a : Addr} (h : Pl3 (H a)) (go : ∀ o, H a = some o → H' a = some o) : Pl3 (H' a) := by
  obtain ⟨u, e⟩ := h.ex
  rw [go u e, ← e]
  exact h
theorem Pl3.tbl {H : Hp} {a : Addr} {ps : Array Value} (h : Pl3 (H a)) : H a ≠ some (.tbl ps) := fun z => by
  rcases h with ⟨C, dx, fs, h⟩ | ⟨k, h⟩ | ⟨l, h⟩ <;> rw [h] at z <;> cases z
theorem Pl3.code {H : Hp} {a c : Addr} {q : Str} (h : Pl3 (H a)) : H a ≠ some (CodeO c q) := fun z => by
  unfold CodeO at z
  rcases h with ⟨C, dx, fs, h⟩ | ⟨k, h⟩ | ⟨l, h⟩ <;> rw [h] at z <;> cases z
structure Ob where
  ok : (Addr → Prop) → Hp → Hp → Prop
  bm : ∀ {M : Addr → Prop} {B H : Hp}, ok M B H → ∀ a, M a → B a = none ∧ Pl3 (H a)
  st : ∀ {M : Addr → Prop} {B H B' H' : Hp}, ok M B H → (∀ a o, M a → H a = some o → H' a = some o) → Ex B B' → Ex B' H' → (∀ a, M a → B' a = none) → ok M B' H'
section
variable {K : Frag} {T : NbC} {M M' : Addr → Prop} {B B' H H' : Hp} {nb : Addr} {st : NbS} {TT : List NTab}
def nbO (K : Frag) (T : NbC) (nb : Addr) (st : NbS) : Ob where
  ok M B H := NB K T M B H nb st ∧ ∀ a, M a → Pl3 (H a)
  bm h a ha := ⟨(h.1.m a ha).1, h.2 a ha⟩
  st h go xb x mb := by
    obtain ⟨⟨dn, c, r, kvs, ad, L⟩, p⟩ := h
    have pl := fun a m => (p a m).stay fun o => go a o m
    exact ⟨⟨dn, c, r, kvs, ad, x, fun a m => ⟨mb a m, (pl a m).ne⟩, go _ _ L.mn L.hn, go _ _ L.mc L.hc, go _ _ L.mr L.hr, L.mn, L.mc, L.mr, L.kin, L.kout, L.kl, L.mad, fun k hk => (L.cells k hk).mono xb fun o => go _ _ (L.mad k hk), L.inj⟩, pl⟩
theorem NB.core (h : NB K T M B H nb st) : ∃ M1, (∀ a, M1 a → M a) ∧ (nbO K T nb st).ok M1 B H := by
  obtain ⟨dn, c, r, kvs, ad, L⟩ := h
  have go : ∀ a, (a = nb ∨ a = c ∨ a = r ∨ ∃ n ∈ st.row, a = ad n) → M a ∧ Pl3 (H a) := by
    rintro a (rfl | rfl | rfl | ⟨n, hn, rfl⟩)
    · exact ⟨L.mn, .inl ⟨_, _, _, L.hn⟩⟩
    · exact ⟨L.mc, .inr (.inl ⟨_, L.hc⟩)⟩
    · exact ⟨L.mr, .inr (.inr ⟨_, L.hr⟩)⟩
    · obtain ⟨dx, lv, rv, h1, _⟩ := L.cells n hn
      exact ⟨L.mad n hn, .inl ⟨_, _, _, h1⟩⟩
  exact ⟨fun a => a = nb ∨ a = c ∨ a = r ∨ ∃ n ∈ st.row, a = ad n, fun a h => (go a h).1, ⟨dn, c, r, kvs, ad, L.x, fun a m => L.m a (go a m).1, L.hn, L.hc, L.hr, .inl rfl, .inr (.inl rfl), .inr (.inr (.inl rfl)), L.kin, L.kout, L.kl, fun n hn => .inr (.inr (.inr ⟨n, hn, rfl⟩)), L.cells, L.inj⟩, fun a m => (go a m).2⟩
/-- a list, a dict of data, of one's own -/
def lstO (K : Frag) (p : Addr) (ds : List PyData) : Ob where
  ok M B H := (∀ a, M a ↔ a = p) ∧ B p = none ∧ ∃ xs, H p = some (.lst xs) ∧ DtAll K B xs ds
  bm h a ha := by
    obtain ⟨h1, h2, xs, h3, h4⟩ := h
    rw [(h1 a).mp ha]
    exact ⟨h2, .inr (.inr ⟨_, h3⟩)⟩
  st h go xb x mb := by
    obtain ⟨h1, h2, xs, h3, h4⟩ := h
    exact ⟨h1, mb p ((h1 p).mpr rfl), xs, go p _ ((h1 p).mpr rfl) h3, dpAll_ex xb _ _ h4⟩
def KvOk (K : Frag) (B : Hp) (ws : List (Key × V)) (kvs : List (Key × PyData)) : Prop := ws.map (·.1) = kvs.map (·.1) ∧ DtAll K B (ws.map (·.2)) (kvs.map (·.2))
def dctO (K : Frag) (p : Addr) (kvs : List (Key × PyData)) : Ob where
  ok M B H := (∀ a, M a ↔ a = p) ∧ B p = none ∧ ∃ ws, H p = some (.dK ws) ∧ KvOk K B ws kvs
  bm h a ha := by
    obtain ⟨h1, h2, xs, h3, h4⟩ := h
    rw [(h1 a).mp ha]
    exact ⟨h2, .inr (.inl ⟨_, h3⟩)⟩
  st h go xb x mb := by
    obtain ⟨h1, h2, xs, h3, h4, h5⟩ := h
    exact ⟨h1, mb p ((h1 p).mpr rfl), xs, go p _ ((h1 p).mpr rfl) h3, h4, dpAll_ex xb _ _ h5⟩
/-- nothing (any more) -/
def noO : Ob where
  ok M _ _ := ∀ a, ¬ M a
  bm h a ha := (h a ha).elim
  st h _ _ _ _ := h
abbrev M00 : Addr → Prop := fun _ => False
theorem TB.none (t : TB TT M B H) : TB TT M00 B H := ⟨t.tb, fun p hp => ⟨fun z => z, (t.out p hp).2⟩, fun c hc => ⟨fun z => z, (t.kd c hc).2⟩⟩
theorem TB.of (t : TB TT M00 B H) (pl : ∀ a, M a → Pl3 (H a)) : TB TT M B H := by
  refine ⟨t.tb, fun p hp => ⟨fun z => ?_, (t.out p hp).2⟩, fun c hc => ⟨fun z => ?_, (t.kd c hc).2⟩⟩
  · obtain ⟨ps, a1, _, _⟩ := t.tb p hp
    exact (pl _ z).tbl a1
  · obtain ⟨q, hq⟩ := told_code t.tb hc
    exact (pl _ z).code hq
end
/-! slots -/
structure VP where
  ok : Hp → V → Prop
  mono : ∀ {B B' : Hp} {v : V}, Ex B B' → ok B v → ok B' v
inductive Sl where
  | any
  | dat (d : PyData)
  | at (a : Addr)
  | dk (kvs : List (Key × V))
  | pr (P : VP)
def SlOk (K : Frag) (B : Hp) : Sl → Option V → Prop
  | .any, _ => True
  | .dat d, o => ∃ v, o = some v ∧ Dt K B v d
  | .at a, o => o = some (.ref a)
  | .dk kvs, o => ∃ p, o = some (.ref p) ∧ B p = some (.dK kvs)
  | .pr P, o => ∃ v, o = some v ∧ P.ok B v
theorem SlOk.mono {K : Frag} {B B' : Hp} (e : Ex B B') : ∀ {s : Sl} {o : Option V}, SlOk K B s o → SlOk K B' s o
  | .any, _, h => h
  | .dat d, _, ⟨v, h1, h2⟩ => ⟨v, h1, dp_ex e _ _ h2⟩
  | .at a, _, h => h
  | .dk kvs, _, ⟨p, h1, h2⟩ => ⟨p, h1, e _ _ h2⟩
  | .pr P, _, ⟨v, h1, h2⟩ => ⟨v, h1, P.mono e h2⟩
structure Nv where
  K : Frag
  TT : List NTab
  M0 : Addr → Prop
  B0 : Hp
  H0 : Hp
  Bk : Hp
structure Cst (V : Nv) (S : List Ob) (Mf : Nat → Addr → Prop) (B H : Hp) : Prop where
  x : Ex B H
  bk : Ex V.Bk B
  ob : ∀ (k : Nat) (O : Ob), S[k]? = some O → O.ok (Mf k) B H
  dj : ∀ j k a, Mf j a → Mf k a → j = k
  nz : ∀ k a, Mf k a → k < S.length
  mm : ∀ k a, Mf k a → Mt V.TT V.M0 a ∨ V.H0 a = none
  t : TB V.TT M00 B H
  fr : ∀ a o, V.H0 a = some o → ¬ Mt V.TT V.M0 a → H a = some o
  xd : Ex V.B0 B
  nw : ∀ a, V.B0 a = none → V.H0 a ≠ none → B a = none
  sy : ∀ a, V.H0 a ≠ none → H a ≠ none
structure Ctx (V : Nv) (Γ : List Sl) (S : List Ob) (σ : L2.St) (B H : Hp) : Prop where
  sl : ∀ (i : Nat) (s : Sl), Γ[i]? = some s → ∃ o, σ[i]? = some o ∧ SlOk V.K B s o
  cs : ∃ Mf, Cst V S Mf B H
section
variable {V : Nv} {Γ : List Sl} {S : List Ob} {σ : L2.St} {B B' H H' : Hp} {Mf : Nat → Addr → Prop} {O O' : Ob} {k : Nat} {M' M1 : Addr → Prop}
theorem Cst.pl (c : Cst V S Mf B H) {j : Nat} {a : Addr} (h : Mf j a) : B a = none ∧ Pl3 (H a) := by
  have hj := c.nz j a h
  exact S[j].bm (c.ob j _ (List.getElem?_eq_getElem hj)) a h
theorem Cst.gr (c : Cst V S Mf B H) (g : Gr B H H' B') : Cst V S Mf B' H' := by
  refine ⟨g.d2, c.bk.trans g.xd, fun k O hk => O.st (c.ob k O hk) (fun a o _ e => g.ex a o e) g.xd g.d2 fun a m => ?_, c.dj, c.nz, c.mm, c.t.gr g, fun a o e n => g.ex _ _ (c.fr a o e n), c.xd.trans g.xd, fun a h1 h2 => g.fr a (c.nw a h1 h2) (c.sy a h2), fun a h => ne_none g.ex (c.sy a h)⟩
  have := c.pl m
  exact g.fr a this.1 this.2.ne
theorem Ctx.gr (c : Ctx V Γ S σ B H) (g : Gr B H H' B') : Ctx V Γ S σ B' H' := by
  obtain ⟨Mf, cs⟩ := c.cs
  refine ⟨fun i s h => ?_, Mf, cs.gr g⟩
  obtain ⟨o, h1, h2⟩ := c.sl i s h
  exact ⟨o, h1, h2.mono g.xd⟩
theorem Ctx.x (c : Ctx V Γ S σ B H) : Ex B H := by
  obtain ⟨Mf, cs⟩ := c.cs
  exact cs.x
theorem Ctx.bk (c : Ctx V Γ S σ B H) : Ex V.Bk B := by
  obtain ⟨Mf, cs⟩ := c.cs
  exact cs.bk
theorem Ctx.ex (c : Ctx V Γ S σ B H) (e : Ex H H') : Ctx V Γ S σ B H' := c.gr (Gr.base c.x e)
/-- one object was worked on -/
theorem Cst.step (c : Cst V S Mf B H) (hk : S[k]? = some O) (f : Fr (Mt V.TT (Mf k)) (Mt V.TT M') B H H' B') (t' : TB V.TT M' B' H') (sub : ∀ a, M1 a → M' a) (o' : O'.ok M1 B' H') :
    Cst V (S.set k O') (fun j => if j = k then M1 else Mf j) B' H' := by
  have tabs : ∀ {j a}, Mf j a → ¬ Tb V.TT a := fun {j a} m ⟨p, hp, e⟩ => by
    obtain ⟨ps, a1, _, _⟩ := c.t.tb p hp
    rw [e] at a1
    exact (c.pl m).2.tbl a1
  have kl : k < S.length := (List.getElem?_eq_some_iff.mp hk).1
  have m1 : ∀ a, M1 a → Mf k a ∨ Tb V.TT a ∨ H a = none := fun a m => by
    rcases f.mm a (.inl (sub a m)) with (z | z) | z
    · exact .inl z
    · exact .inr (.inl z)
    · exact .inr (.inr z)
  have go : ∀ j, j ≠ k → ∀ a, Mf j a → ¬ Mt V.TT (Mf k) a := fun j hj a m z => by
    rcases z with z | z
    · exact hj (c.dj j k a m z)
    · exact tabs m z
  have sty : ∀ a, H a ≠ none → H' a ≠ none := f.stay
  have ab : ∀ j, j ≠ k → ∀ a, Mf j a → M1 a → False := fun j hj a m1' m2' => by
    rcases m1 a m2' with z | z | z
    · exact hj (c.dj j k a m1' z)
    · exact tabs m1' z
    · exact (c.pl m1').2.ne z
  refine ⟨f.d2, c.bk.trans f.xd, fun j P hj => ?_, fun i j a h1 h2 => ?_, fun j a h => ?_, fun j a h => ?_, t'.none, fun a o e n => f.fr a o (c.fr a o e n) fun z => ?_, c.xd.trans f.xd, fun a h1 h2 => f.nw a (c.nw a h1 h2) (c.sy a h2), fun a h => sty a (c.sy a h)⟩
  · skip
    by_cases e : j = k
    · subst e
      rw [List.getElem?_set_self kl] at hj
      cases hj
      rw [if_pos rfl]
      exact o'
    · rw [List.getElem?_set_ne (Ne.symm e)] at hj
      rw [if_neg e]
      exact P.st (c.ob j P hj) (fun a o m h => f.fr a o h (go j e a m)) f.xd f.d2 fun a m => f.nw a (c.pl m).1 (c.pl m).2.ne
  · skip
    by_cases e1 : i = k <;> by_cases e2 : j = k
    · rw [e1, e2]
    · rw [if_pos e1] at h1
      rw [if_neg e2] at h2
      exact (ab j e2 a h2 h1).elim
    · rw [if_neg e1] at h1
      rw [if_pos e2] at h2
      exact (ab i e1 a h1 h2).elim
    · rw [if_neg e1] at h1
      rw [if_neg e2] at h2
      exact c.dj i j a h1 h2
  · skip
    rw [List.length_set]
    by_cases e : j = k
    · rw [e]; exact kl
    · rw [if_neg e] at h
      exact c.nz j a h
  · skip
    by_cases e : j = k
    · rw [if_pos e] at h
      rcases m1 a h with z | z | z
      · exact c.mm k a z
      · exact .inl (.inr z)
      · right
        cases q : V.H0 a with
        | none => rfl
        | some o => exact absurd z (c.sy a (by rw [q]; exact fun z => nomatch z))
    · rw [if_neg e] at h
      exact c.mm j a h
  · rcases z with z | z
    · rcases c.mm k a z with w | w
      · exact n w
      · rw [w] at e; cases e
    · exact n (.inr z)
/-- slots follow the data -/
theorem Ctx.to (c : Ctx V Γ S σ B H) (e : Ex B B') {S' : List Ob} {Mf' : Nat → Addr → Prop} (h : Cst V S' Mf' B' H') : Ctx V Γ S' σ B' H' := ⟨fun i s q => by
  obtain ⟨o, h1, h2⟩ := c.sl i s q
  exact ⟨o, h1, h2.mono e⟩, Mf', h⟩
/-- a new object -/
theorem Cst.new {p : Addr} {u : HO} (c : Cst V S Mf B H) (hp : H p = none) (hu : Pl3 (some u)) (ho : O.ok (fun a => a = p) B (upd H p u)) : Cst V (S ++ [O]) (fun j => if j = S.length then fun a => a = p else Mf j) B (upd H p u) := by
  have e : Ex H (upd H p u) := Ex.new hp
  have c' := c.gr (Gr.base c.x e)
  have np : ∀ j, ¬ Mf j p := fun j m => (c.pl m).2.ne hp
  refine ⟨c'.x, c'.bk, fun j P hj => ?_, fun i j a h1 h2 => ?_, fun j a h => ?_, fun j a h => ?_, c'.t, c'.fr, c'.xd, c'.nw, c'.sy⟩
  · skip
    by_cases z : j = S.length
    · subst z
      rw [List.getElem?_append_right (Nat.le_refl _), Nat.sub_self] at hj
      cases hj
      rw [if_pos rfl]
      exact ho
    · rw [if_neg z]
      by_cases lt : j < S.length
      · rw [List.getElem?_append_left lt] at hj
        exact c'.ob j P hj
      · rw [List.getElem?_append_right (by omega)] at hj
        have : j - S.length ≠ 0 := by omega
        cases q : j - S.length with
        | zero => exact absurd q this
        | succ n => rw [q] at hj; cases hj
  · skip
    by_cases e1 : i = S.length <;> by_cases e2 : j = S.length
    · rw [e1, e2]
    · rw [if_pos e1] at h1
      rw [if_neg e2, h1] at h2
      exact (np j h2).elim
    · rw [if_pos e2] at h2
      rw [if_neg e1, h2] at h1
      exact (np i h1).elim
    · rw [if_neg e1] at h1
      rw [if_neg e2] at h2
      exact c.dj i j a h1 h2
  · skip
    rw [List.length_append]
    by_cases z : j = S.length
    · rw [z]; exact Nat.lt_succ_self _
    · rw [if_neg z] at h
      exact Nat.lt_of_lt_of_le (c.nz j a h) (Nat.le_add_right _ _)
  · skip
    by_cases z : j = S.length
    · rw [if_pos z] at h
      right
      rw [h]
      cases q : V.H0 p with
      | none => rfl
      | some o => exact absurd hp (c.sy p (by rw [q]; exact fun z => nomatch z))
    · rw [if_neg z] at h
      exact c.mm j a h
/-- what stood in an object of one's own goes to the data -/
theorem Cst.frz {p : Addr} {u : HO} (c : Cst V S Mf B H) (hk : S[k]? = some O) (hm : ∀ a, Mf k a ↔ a = p) (hu : H p = some u) (h0 : V.H0 p = none) : Cst V (S.set k noO) (fun j => if j = k then M00 else Mf j) (upd B p u) H := by
  have mp : Mf k p := (hm p).mpr rfl
  have bp := (c.pl mp).1
  have kl : k < S.length := (List.getElem?_eq_some_iff.mp hk).1
  have x' : Ex (upd B p u) H := fun a o e => by
    by_cases z : a = p
    · rw [z, upd_same] at e
      cases e
      rw [z]
      exact hu
    · rw [upd_ne z] at e
      exact c.x _ _ e
  refine ⟨x', c.bk.trans (Ex.new bp), fun j P hj => ?_, fun i j a h1 h2 => ?_, fun j a h => ?_, fun j a h => ?_, ⟨c.t.tb, fun q hq => ⟨fun z => z, ?_⟩, fun c0 hc => ⟨fun z => z, ?_⟩⟩, c.fr, c.xd.trans (Ex.new bp), fun a h1 h2 => ?_, c.sy⟩
  · skip
    by_cases e : j = k
    · subst e
      rw [List.getElem?_set_self kl] at hj
      cases hj
      rw [if_pos rfl]
      exact fun a z => z
    · rw [List.getElem?_set_ne (Ne.symm e)] at hj
      rw [if_neg e]
      refine P.st (c.ob j P hj) (fun a o m h => h) (Ex.new bp) x' fun a m => ?_
      have : a ≠ p := fun z => e (c.dj j k a m (by rw [z]; exact mp))
      rw [upd_ne this]
      exact (c.pl m).1
  · skip
    by_cases e1 : i = k
    · rw [if_pos e1] at h1; exact h1.elim
    by_cases e2 : j = k
    · rw [if_pos e2] at h2; exact h2.elim
    rw [if_neg e1] at h1
    rw [if_neg e2] at h2
    exact c.dj i j a h1 h2
  · skip
    rw [List.length_set]
    by_cases e : j = k
    · rw [if_pos e] at h; exact h.elim
    · rw [if_neg e] at h; exact c.nz j a h
  · skip
    by_cases e : j = k
    · rw [if_pos e] at h; exact h.elim
    · rw [if_neg e] at h; exact c.mm j a h
  · rw [upd_ne]
    · exact (c.t.out q hq).2
    · intro z
      obtain ⟨ps, a1, _, _⟩ := c.t.tb q hq
      rw [z] at a1
      exact (c.pl mp).2.tbl a1
  · rw [upd_ne]
    · exact (c.t.kd c0 hc).2
    · intro z
      obtain ⟨q, hq⟩ := told_code c.t.tb hc
      rw [z] at hq
      exact (c.pl mp).2.code hq
  · have : a ≠ p := fun z => h2 (by rw [z]; exact h0)
    rw [upd_ne this]
    exact c.nw a h1 h2
theorem Ctx.set {i : Nat} {s : Sl} {o : Option L2.V} (c : Ctx V Γ S σ B H) (h : SlOk V.K B s o) : Ctx V (Γ.set i s) S (σ.set i o) B H := by
  refine ⟨fun j t hj => ?_, c.cs⟩
  by_cases e : i = j
  · subst e
    by_cases lt : i < Γ.length
    · rw [List.getElem?_set_self lt] at hj
      cases hj
      obtain ⟨o', h1, _⟩ := c.sl i _ (List.getElem?_eq_getElem lt)
      exact ⟨o, by rw [List.getElem?_set_self (List.getElem?_eq_some_iff.mp h1).1], h⟩
    · rw [List.getElem?_eq_none (by rw [List.length_set]; omega)] at hj
      cases hj
  · rw [List.getElem?_set_ne e] at hj
    rw [List.getElem?_set_ne e]
    exact c.sl j t hj
theorem Ctx.dat {i : Nat} {v : L2.V} {d : PyData} (c : Ctx V Γ S σ B H) (h : Dt V.K B v d) : Ctx V (Γ.set i (.dat d)) S (σ.set i (some v)) B H := c.set ⟨v, rfl, h⟩
/-- a slot told anew -/
theorem Ctx.slot {i : Nat} {a : Addr} {d : PyData} (c : Ctx V Γ S σ B H) (hi : Γ[i]? = some (.at a)) (h : Dt V.K B (.ref a) d) : Ctx V (Γ.set i (.dat d)) S σ B H := by
  refine ⟨fun j t hj => ?_, c.cs⟩
  by_cases e : i = j
  · subst e
    rw [List.getElem?_set_self (List.getElem?_eq_some_iff.mp hi).1] at hj
    cases hj
    obtain ⟨o', h1, h2⟩ := c.sl i _ hi
    exact ⟨o', h1, _, h2, h⟩
  · rw [List.getElem?_set_ne e] at hj
    exact c.sl j t hj
def wipeS (Γ : List Sl) : List Nat → List Sl
  | [] => Γ
  | v :: vs => (wipeS Γ vs).set v .any
theorem Ctx.wipe (c : Ctx V Γ S σ B H) : ∀ vs : List Nat, Ctx V (wipeS Γ vs) S (L2.wipe σ vs) B H
  | [] => c
  | v :: vs => (Ctx.wipe c vs).set trivial
theorem wipe_in {σ : L2.St} {i : Nat} : ∀ {vs : List Nat}, i ∈ vs → i < σ.length → (L2.wipe σ vs)[i]? = some none
  | v :: vs, h, hl => by
    unfold L2.wipe
    by_cases e : v = i
    · subst e
      rw [List.getElem?_set_self (by rw [wipe_length]; exact hl)]
    · rw [List.getElem?_set_ne e]
      rcases List.mem_cons.mp h with z | z
      · exact absurd z.symm e
      · exact wipe_in z hl
theorem wipe_set {σ : L2.St} {j : Nat} {vs : List Nat} {x : Option L2.V} (h : j ∈ vs) : L2.wipe ((L2.wipe σ vs).set j x) vs = L2.wipe σ vs := by
  refine List.ext_getElem? fun i => ?_
  by_cases hl : i < σ.length
  · by_cases hi : i ∈ vs
    · rw [wipe_in hi hl, wipe_in hi (by rw [List.length_set, wipe_length]; exact hl)]
    · rw [wipe_out hi, List.getElem?_set_ne (fun z : j = i => hi (by rw [← z]; exact h))]
  · rw [List.getElem?_eq_none (by rw [wipe_length, List.length_set, wipe_length]; omega), List.getElem?_eq_none (by rw [wipe_length]; omega)]
end
end LC

namespace LC
open PySem PySem.Spec PyProof.Rows L2 Evl LamX NdefX
/-! ### judgements over what is known -/
def sel (m : Bool) (B H : Hp) : Hp := if m = true then H else B
def AE (V : Nv) (m : Bool) (te : TE) (Γ : List Sl) (S : List Ob) (d : PyData) : Prop := ∀ σ B H, Ctx V Γ S σ B H → EvB V.K te σ (sel m B H) H d
def AEs (V : Nv) (m : Bool) (ta : TA) (Γ : List Sl) (S : List Ob) (ds : List PyData) : Prop := ∀ σ B H, Ctx V Γ S σ B H → EvBs V.K ta σ (sel m B H) H ds
def AV (V : Nv) (te : TE) (Γ : List Sl) (S : List Ob) (v : L2.V) : Prop := ∀ σ B H, Ctx V Γ S σ B H → Ev te σ H v
def AT (V : Nv) (t : TT) (Γ : List Sl) (S : List Ob) (b : Bool) : Prop := ∀ σ B H, Ctx V Γ S σ B H → EvT t σ H b
def AM (V : Nv) (te : TE) (Γ : List Sl) (S : List Ob) (d : PyData) (S' : List Ob) : Prop := ∀ σ B H, Ctx V Γ S σ B H → ∀ Q : VK, (∀ v B' H', Ctx V Γ S' σ B' H' → Ex B B' → Dt V.K B' v d → Q v H') → te σ H Q
def AMs (V : Nv) (ta : TA) (Γ : List Sl) (S : List Ob) (ds : List PyData) (S' : List Ob) : Prop := ∀ σ B H, Ctx V Γ S σ B H → ∀ Q : List L2.V → Hp → Prop, (∀ vs B' H', Ctx V Γ S' σ B' H' → Ex B B' → DtAll V.K B' vs ds → Q vs H') → ta σ H Q
def ATM (V : Nv) (t : TT) (Γ : List Sl) (S : List Ob) (b : Bool) (S' : List Ob) : Prop := ∀ σ B H, Ctx V Γ S σ B H → ∀ Q : Bool → Hp → Prop, (∀ B' H', Ctx V Γ S' σ B' H' → Ex B B' → Q b H') → t σ H Q
def AG (V : Nv) (g : TG) (Γ : List Sl) (S : List Ob) (d : PyData) (Γ' : List Sl) : Prop := ∀ σ B H v, Ctx V Γ S σ B H → Dt V.K B v d → ∀ Q : L2.St → Hp → Prop, (∀ σ', Ctx V Γ' S σ' B H → Q σ' H) → g v σ H Q
def AN (V : Nv) (nx : L2.St → Hp → Prop) (Γ : List Sl) (S : List Ob) : Prop := ∀ σ B H, Ctx V Γ S σ B H → nx σ H
def IN (V : Nv) (I : List Sl → List Ob → Prop) : L2.St → Hp → Prop := fun σ H => ∃ Γ S B, Ctx V Γ S σ B H ∧ I Γ S
/-- two operands, a call, on data -/
def RvD (K : Frag) (r : R2) (d e z : PyData) : Prop := ∀ x y H1 A, Ex A H1 → Dt K A x d → Dt K A y e → ∀ Q : VK, (∀ v H2 C, Gr A H1 H2 C → Dt K C v z → Q v H2) → r x y H1 Q
def RcD (K : Frag) (r : List L2.V → Hp → VK → Prop) (ds : List PyData) (z : PyData) : Prop := ∀ vs H1 A, Ex A H1 → DtAll K A vs ds → ∀ Q : VK, (∀ v H2 C, Gr A H1 H2 C → Dt K C v z → Q v H2) → r vs H1 Q
section
variable {K : Frag} {σ : L2.St} {B H : Hp} {ta tb te : TE} {targs : TA} {d e z : PyData} {ds : List PyData} {r : R2}
theorem evb_opR (ha : EvB K ta σ B H d) (hb : EvB K tb σ B H e) (hr : RvD K r d e z) : EvB K (tOp r ta tb) σ B H z := fun H1 e1 Q q =>
  ha H1 e1 _ fun x H2 A g hx => hb H2 (e1.trans g.ex) _ fun y H3 B g2 hy => hr x y H3 _ (g.join g2).d2 (dp_ex join_l _ _ hx) (dp_ex (join_r (g.d2.trans g2.ex) g2.d2) _ _ hy) Q fun v H4 C g3 hv => q v H4 C
    ⟨(g.ex.trans g2.ex).trans g3.ex, (g.join g2).xd.trans g3.xd, g3.d2, fun a h0 h1 => g3.fr a ((g.join g2).fr a h0 h1) (ne_none (g.ex.trans g2.ex) h1)⟩ hv
theorem evb_cb {r : List L2.V → Hp → VK → Prop} (ha : EvBs K targs σ B H ds) (hr : RcD K r ds z) : EvB K (tCB r targs) σ B H z := fun H1 e1 Q q =>
  ha H1 e1 _ fun xs H2 A g hx => hr xs H2 A g.d2 hx Q fun v H3 C g3 hv => q v H3 C (g.seq g3) hv
end
/-! operations -/
section
variable {K : Frag} {ds es : List PyData} {i j : Int} {d e : PyData}
theorem rvd_val {r : R2} {v : L2.V} {z : PyData} (hr : ∀ x y H1, Dt K H1 x d → Dt K H1 y e → ∀ Q : VK, Q v H1 → r x y H1 Q) (hv : ∀ H, Dt K H v z) : RvD K r d e z := fun x y H1 A ea hx hy Q q => hr x y H1 (dp_ex ea _ _ hx) (dp_ex ea _ _ hy) Q (q v H1 A (Gr.base ea (Ex.refl _)) (hv A))
theorem rvd_I0 {g : Int → Int → L2.V} {z : PyData} (hv : ∀ H, Dt K H (g i j) z) : RvD K (rI0 g) (.int i) (.int j) z := rvd_val (v := g i j) (fun x y H1 hx hy Q q => ⟨i, j, dp_int hx, dp_int hy, q⟩) hv
theorem rvd_I {C : Int → Int → Prop} {g : Int → Int → L2.V} {z : PyData} (hc : C i j) (hv : ∀ H, Dt K H (g i j) z) : RvD K (rI C g) (.int i) (.int j) z := rvd_val (v := g i j) (fun x y H1 hx hy Q q => ⟨i, j, dp_int hx, dp_int hy, hc, q⟩) hv
theorem rvd_addI : RvD K (rAddU K) (.int i) (.int j) (.int (i + j)) := rvd_val (v := .int (i + j)) (fun x y H1 hx hy Q q => .inl ⟨i, j, dp_int hx, dp_int hy, q⟩) fun _ => .int _
theorem rvd_sub : RvD K (rI0 fun i j => .int (i - j)) (.int i) (.int j) (.int (i - j)) := rvd_I0 fun _ => .int _
theorem rvd_lt : RvD K (rI0 fun i j => .bl (decide (i < j))) (.int i) (.int j) (.bool (decide (i < j))) := rvd_I0 fun _ => .bl _
theorem rvd_le : RvD K (rI0 fun i j => .bl (decide (i ≤ j))) (.int i) (.int j) (.bool (decide (i ≤ j))) := rvd_I0 fun _ => .bl _
theorem rvd_gt : RvD K (rI0 fun i j => .bl (decide (j < i))) (.int i) (.int j) (.bool (decide (j < i))) := rvd_I0 fun _ => .bl _
theorem rvd_ge : RvD K (rI0 fun i j => .bl (decide (j ≤ i))) (.int i) (.int j) (.bool (decide (j ≤ i))) := rvd_I0 fun _ => .bl _
theorem rvd_mod (hj : 0 < j) : RvD K (rI (fun _ j => 0 < j) fun i j => .int (i % j)) (.int i) (.int j) (.int (i % j)) := rvd_I hj fun _ => .int _
theorem rvd_div (hj : 0 < j ∧ j < 1073741824) : RvD K (rI CDiv fun i j => .int (i / j)) (.int i) (.int j) (.int (i / j)) := rvd_I hj fun _ => .int _
theorem rvd_mulI (hc : CMul i j) : RvD K (rMulU K) (.int i) (.int j) (.int (i * j)) := rvd_val (v := .int (i * j)) (fun x y H1 hx hy Q q => .inl ⟨i, j, dp_int hx, dp_int hy, hc, q⟩) fun _ => .int _
theorem rvd_eq (hd : SeqAt.shaped d = true) (he : SeqAt.shaped e = true) : RvD K (rEqD K) d e (.bool (PyData.eqv d e)) := rvd_val (v := .bl _) (fun x y H1 hx hy Q q => ⟨d, e, dt_dp _ _ hx, dt_dp _ _ hy, hd, he, q⟩) fun _ => .bl _
theorem rvd_ne (hd : SeqAt.shaped d = true) (he : SeqAt.shaped e = true) : RvD K (rNeD K) d e (.bool (!PyData.eqv d e)) := rvd_val (v := .bl _) (fun x y H1 hx hy Q q => ⟨d, e, dt_dp _ _ hx, dt_dp _ _ hy, hd, he, q⟩) fun _ => .bl _
theorem rvd_is {r : R2} {z z' : PyData} (h : RvD K r d e z) (q : z = z') : RvD K r d e z' := q ▸ h
theorem rvd_ixT (hi : atI ds i = some d) : RvD K (rIx K) (.tuple ds) (.int i) d := fun x y H1 A e hx hy Q q => by
  obtain ⟨a, xs, rfl, hs, hall⟩ := dp_tup hx
  cases hy
  obtain ⟨v, hv, hd⟩ := atI_dp hall hi
  exact .inr (.inl ⟨a, xs, i, v, rfl, rfl, ex_t e hs, hv, q v H1 A (Gr.base e (Ex.refl H1)) hd⟩)
theorem rvd_ixL (hi : atI ds i = some d) : RvD K (rIx K) (.list ds) (.int i) d := fun x y H1 A e hx hy Q q => by
  obtain ⟨a, xs, rfl, hs, hall⟩ := dp_lst hx
  cases hy
  obtain ⟨v, hv, hd⟩ := atI_dp hall hi
  exact .inl ⟨a, xs, i, v, rfl, rfl, sq_of (e _ _ hs), hv, q v H1 A (Gr.base e (Ex.refl H1)) hd⟩
theorem rvd_addT (hl : ds.length + es.length ≤ 100000) : RvD K (rAddU K) (.tuple ds) (.tuple es) (.tuple (ds ++ es)) := fun x y H1 A e hx hy Q q => by
  obtain ⟨a, xs, rfl, hs, h1⟩ := dp_tup hx
  obtain ⟨b, ys, rfl, ht, h2⟩ := dp_tup hy
  refine .inr (.inr (.inr ⟨a, b, xs, ys, rfl, rfl, ex_t e hs, ex_t e ht, by rw [dpAll_len h1, dpAll_len h2]; exact sz_of hl, fun z => ?_, fun _ z => ?_, fun _ _ p hp => ?_⟩))
  · subst z
    cases h1
    exact q _ H1 A (Gr.base e (Ex.refl H1)) (.tup ht h2)
  · subst z
    cases h2
    rw [List.append_nil] at q
    exact q _ H1 A (Gr.base e (Ex.refl H1)) (.tup hs h1)
  · exact q _ _ _ ((Gr.base e (Ex.refl H1)).new _ hp) (.tup (st_of upd_same) (dpAll_ex (Ex.new (fresh_back e hp)) _ _ (dpAll_app h1 h2)))
theorem rvd_addL (hl : ds.length + es.length ≤ 100000) : RvD K (rAddU K) (.list ds) (.list es) (.list (ds ++ es)) := fun x y H1 A e dx dy Q q => by
  obtain ⟨a, xs, rfl, hs, h1⟩ := dp_lst dx
  obtain ⟨b, ys, rfl, ht, h2⟩ := dp_lst dy
  refine .inr (.inr (.inl ⟨a, b, xs, ys, rfl, rfl, e _ _ hs, e _ _ ht, by rw [dpAll_len h1, dpAll_len h2]; exact sz_of hl, fun p hp => ?_⟩))
  exact q _ _ _ ((Gr.base e (Ex.refl H1)).new _ hp) (.lst upd_same (dpAll_ex (Ex.new (fresh_back e hp)) _ _ (dpAll_app h1 h2)))
theorem rvd_mulL {n : Nat} (hn : n ≤ 1000) (hl : ds.length ≤ 100) : RvD K (rMulU K) (.list ds) (.int (n : Int)) (.list (List.replicate n ds).flatten) := fun x y H1 A e dx dy Q q => by
  obtain ⟨a, xs, rfl, hs, h1⟩ := dp_lst dx
  rw [dp_int dy]
  have hlen := dpAll_len h1
  refine .inr (.inl ⟨a, (n : Int), xs, rfl, rfl, e _ _ hs, by omega, by omega, ?_, fun p hp => ?_⟩)
  · rw [Int.toNat_natCast, hlen]
    exact sz_of (Nat.le_trans (Nat.mul_le_mul hl hn) (by decide))
  · rw [Int.toNat_natCast]
    exact q _ _ _ ((Gr.base e (Ex.refl H1)).new _ hp) (.lst upd_same (dpAll_ex (Ex.new (fresh_back e hp)) _ _ (dpAll_rep h1 _)))
theorem rvd_inL {neg : Bool} (fd : flatD d = true) (fs : ds.all flatD = true) : RvD K (rInU K neg) d (.list ds) (.bool (if neg then !inD d ds else inD d ds)) := rvd_val (v := .bl _) (fun x y H1 hx hy Q q => by
  obtain ⟨a, xs, rfl, hs, hall⟩ := dp_lst hy
  exact .inl ⟨a, xs, rfl, .inl (sq_of hs), flat_dp hx fd, flats_dp hall fs, by rw [inV_dp hx fd hall fs]; exact q⟩) fun _ => .bl _
theorem rvd_inT {neg : Bool} (fd : flatD d = true) (fs : ds.all flatD = true) : RvD K (rInU K neg) d (.tuple ds) (.bool (if neg then !inD d ds else inD d ds)) := rvd_val (v := .bl _) (fun x y H1 hx hy Q q => by
  obtain ⟨a, xs, rfl, hs, hall⟩ := dp_tup hy
  exact .inl ⟨a, xs, rfl, .inr hs, flat_dp hx fd, flats_dp hall fs, by rw [inV_dp hx fd hall fs]; exact q⟩) fun _ => .bl _
def isNoneD : PyData → Bool
  | .none => true
  | _ => false
theorem non_dp {H : Hp} {v : L2.V} (h : Dt K H v d) : decide (v = .non) = isNoneD d := by
  cases h <;> simp [isNoneD]
theorem rvd_isN : RvD K (fun x y H Q => y = V.non ∧ Q (.bl (decide (x = .non))) H) d .none (.bool (isNoneD d)) := rvd_val (v := .bl _) (fun x y H1 hx hy Q q => ⟨dp_none hy, by rw [non_dp hx]; exact q⟩) fun _ => .bl _
theorem rvd_notN : RvD K (fun x y H Q => y = V.non ∧ Q (.bl (!decide (x = .non))) H) d .none (.bool (!isNoneD d)) := rvd_val (v := .bl _) (fun x y H1 hx hy Q q => ⟨dp_none hy, by rw [non_dp hx]; exact q⟩) fun _ => .bl _
theorem rcd_lenL : RcD K (rLenU K) [.list ds] (.int (ds.length : Int)) := fun vs H1 A e hv Q q => by
  obtain ⟨v, rfl, h⟩ := dts1 hv
  obtain ⟨a, xs, rfl, hs, hall⟩ := dp_lst h
  exact ⟨_, ds.length, rfl, .inl ⟨xs, sq_of (e _ _ hs), (dpAll_len hall).symm⟩, q _ H1 A (Gr.base e (Ex.refl _)) (.int _)⟩
theorem rcd_lenT : RcD K (rLenU K) [.tuple ds] (.int (ds.length : Int)) := fun vs H1 A e hv Q q => by
  obtain ⟨v, rfl, h⟩ := dts1 hv
  obtain ⟨a, xs, rfl, hs, hall⟩ := dp_tup h
  exact ⟨_, ds.length, rfl, .inr ⟨xs, ex_t e hs, (dpAll_len hall).symm⟩, q _ H1 A (Gr.base e (Ex.refl _)) (.int _)⟩
theorem rcd_intB {b : Bool} : RcD K (fun xs H Q => (∃ i, xs = [.int i] ∧ Q (.int i) H) ∨ ∃ k, xs = [.bl k] ∧ Q (.int (if k then 1 else 0)) H) [.bool b] (.int (if b then 1 else 0)) := fun vs H1 A e hv Q q => by
  obtain ⟨v, rfl, h⟩ := dts1 hv
  rw [dp_bool h]
  exact .inr ⟨b, rfl, q _ H1 A (Gr.base e (Ex.refl _)) (.int _)⟩
theorem rcd_tupL : RcD K (rTupU K) [.list ds] (.tuple ds) := fun vs H1 A e hv Q q => by
  obtain ⟨v, rfl, h⟩ := dts1 hv
  obtain ⟨a, xs, rfl, hs, hall⟩ := dp_lst h
  exact ⟨a, xs, rfl, .inl ⟨sq_of (e _ _ hs), fun l hl => q _ _ _ ((Gr.base e (Ex.refl _)).new _ hl) (.tup (st_of upd_same) (dpAll_ex (Ex.new (fresh_back e hl)) _ _ hall))⟩⟩
theorem rcd_lstL : RcD K (rLstU K) [.list ds] (.list ds) := fun vs H1 A e hv Q q => by
  obtain ⟨v, rfl, h⟩ := dts1 hv
  obtain ⟨a, xs, rfl, hs, hall⟩ := dp_lst h
  exact ⟨a, xs, rfl, .inl (sq_of (e _ _ hs)), fun l hl => q _ _ _ ((Gr.base e (Ex.refl _)).new _ hl) (.lst upd_same (dpAll_ex (Ex.new (fresh_back e hl)) _ _ hall))⟩
theorem rcd_isi {T : String} (hT : T ∈ ["bool", "int", "str", "list", "tuple", "dict"]) : ∀ (x : L2.V) (H1 : Hp), Dt K H1 x d → ∀ Q : VK, Q (.bl (isT d T)) H1 → rIsi K [x, .ty T] H1 Q := fun x H1 hx Q q => ⟨x, .ty T, _, _, _, rfl, .ty T, dp_ty hx, kit_isT d hT, q⟩
end
section
variable {V : Nv} {Γ Γ' : List Sl} {S S1 S2 S' : List Ob} {m : Bool} {te ta tb tl : TE} {t u : TT} {targs tr : TA} {d e z : PyData} {ds : List PyData} {D : Ends} {tu tw : TS} {g : TG} {i j k : Nat} {b : Bool} {r : R2}
theorem Ctx.sx {σ : L2.St} {B H : Hp} (c : Ctx V Γ S σ B H) : Ex (sel m B H) H := by
  cases m with
  | true => exact Ex.refl _
  | false => exact c.x
theorem sel_dp {K : Frag} {B H : Hp} {v : L2.V} (x : Ex B H) (h : Dt K B v d) : Dt K (sel m B H) v d := by
  cases m with
  | true => exact dp_ex x _ _ h
  | false => exact h
theorem AE.am (h : AE V false te Γ S d) : AM V te Γ S d S := fun σ B H c Q k => h σ B H c H (Ex.refl H) _ fun v H2 Hd g hd => k v Hd H2 (c.gr g) g.xd hd
theorem AEs.am (h : AEs V false targs Γ S ds) : AMs V targs Γ S ds S := fun σ B H c Q k => h σ B H c H (Ex.refl H) _ fun v H2 Hd g hd => k v Hd H2 (c.gr g) g.xd hd
theorem AT.am (h : AT V t Γ S b) : ATM V t Γ S b S := fun σ B H c Q k => h σ B H c H (Ex.refl H) _ fun H2 e2 => k B H2 (c.ex e2) (Ex.refl B)
theorem AE.up (h : AE V false te Γ S d) : AE V true te Γ S d := fun σ B H c => EvB.wide (h σ B H c) c.x (Ex.refl H)
theorem AE.is (h : AE V m te Γ S d) (q : d = e) : AE V m te Γ S e := q ▸ h
theorem AM.is (h : AM V te Γ S d S') (q : d = e) : AM V te Γ S e S' := q ▸ h
theorem AM.isS (h : AM V te Γ S d S') (q : S' = S2) : AM V te Γ S d S2 := q ▸ h
theorem AT.is {b' : Bool} (h : AT V t Γ S b) (q : b = b') : AT V t Γ S b' := q ▸ h
/-- a scalar needs no data -/
theorem AE.scB (h : AE V true te Γ S (.bool b)) : AE V m te Γ S (.bool b) := fun σ B H c => evb_b c.sx (evB_bl (h σ B H c))
theorem AE.scI {i : Int} (h : AE V true te Γ S (.int i)) : AE V m te Γ S (.int i) := fun σ B H c => evb_i c.sx (evB_int (h σ B H c))
theorem AE.vI {i : Int} (h : AE V m te Γ S (.int i)) : AV V te Γ S (.int i) := fun σ B H c => evB_int (h σ B H c)
theorem AE.vS {x : Str} (h : AE V m te Γ S (.str x)) : AV V te Γ S (.str x) := fun σ B H c => evB_str (h σ B H c)
theorem AE.vB (h : AE V m te Γ S (.bool b)) : AV V te Γ S (.bl b) := fun σ B H c => evB_bl (h σ B H c)
theorem AV.at {a : Addr} (h : Γ[i]? = some (.at a)) : AV V (tVar i) Γ S (.ref a) := fun σ B H c => by
  obtain ⟨o, h1, h2⟩ := c.sl i _ h
  have h2 : o = some (.ref a) := h2
  subst h2
  exact ev_var h1
theorem ae_var (h : Γ[i]? = some (.dat d)) : AE V m (tVar i) Γ S d := fun σ B H c => by
  obtain ⟨o, h1, v, rfl, h3⟩ := c.sl i _ h
  exact evb_v c.sx (ev_var h1) (sel_dp c.x h3)
theorem ae_v {v : L2.V} (h : AV V te Γ S v) (hd : ∀ H, Dt V.K H v d) : AE V m te Γ S d := fun σ B H c => evb_v c.sx (h σ B H c) (hd _)
theorem ae_int {i : Int} : AE V m (tC (.int i)) Γ S (.int i) := ae_v (fun _ _ _ _ => ev_c) fun _ => .int i
theorem ae_str {x : Str} : AE V m (tC (.str x)) Γ S (.str x) := ae_v (fun _ _ _ _ => ev_c) fun _ => .str x
theorem ae_bl : AE V m (tC (.bl b)) Γ S (.bool b) := ae_v (fun _ _ _ _ => ev_c) fun _ => .bl b
theorem ae_non : AE V m (tC .non) Γ S .none := ae_v (fun _ _ _ _ => ev_c) fun _ => .non
/-- a list of one's own, looked at -/
theorem ae_own {p : Addr} (hi : Γ[i]? = some (.at p)) (hk : S[k]? = some (lstO V.K p ds)) : AE V true (tVar i) Γ S (.list ds) := fun σ B H c => by
  obtain ⟨Mf, cs⟩ := c.cs
  obtain ⟨h1, h2, xs, h3, h4⟩ := cs.ob k _ hk
  exact evb_v (Ex.refl H) (AV.at hi σ B H c) (.lst h3 (dpAll_ex c.x _ _ h4))
theorem aes_nil : AEs V m tNil Γ S [] := fun σ B H c => ebs_nil c.sx
theorem aes_cons (h : AE V m te Γ S d) (hr : AEs V m tr Γ S ds) : AEs V m (tCons te tr) Γ S (d :: ds) := fun σ B H c => ebs_cons (h σ B H c) (hr σ B H c)
theorem ae_tup (h : AEs V m targs Γ S ds) (hl : ds.length ≤ 100000) : AE V m (tTup targs) Γ S (.tuple ds) := fun σ B H c => evb_tup (h σ B H c) hl
theorem ae_lst (h : AEs V m targs Γ S ds) (hl : ds.length ≤ 100000) : AE V m (tLst targs) Γ S (.list ds) := fun σ B H c => evb_lst (h σ B H c) hl
theorem ae_op (ha : AE V m ta Γ S d) (hb : AE V m tb Γ S e) (hr : RvD V.K r d e z) : AE V m (tOp r ta tb) Γ S z := fun σ B H c => evb_opR (ha σ B H c) (hb σ B H c) hr
theorem ae_cb {r : List L2.V → Hp → VK → Prop} (h : AEs V m targs Γ S ds) (hr : RcD V.K r ds z) : AE V m (tCB r targs) Γ S z := fun σ B H c => evb_cb (h σ B H c) hr
theorem ae_isi {T : String} (h : AE V true te Γ S d) (hT : T ∈ ["bool", "int", "str", "list", "tuple", "dict"]) : AE V m (tCB (rIsi V.K) (tCons te (tCons (tC (.ty T)) tNil))) Γ S (.bool (isT d T)) := fun σ B H c => evb_b c.sx (fun H1 e1 Q q => h σ B H c H1 e1 _ fun v H2 A g hd => rcd_isi hT v H2 (dp_ex g.d2 _ _ hd) Q (q H2 g.ex))
theorem ae_call {F : List PyData → PyData → Prop} {E : XK} (h : AEs V m targs Γ S ds) (hf : F ds d) : AE V m (tCall (spD V.K F) [] E targs) Γ S d := fun σ B H c => evb_call (h σ B H c) hf
theorem ae_if (h : AT V t Γ S b) (h1 : b = true → AE V m ta Γ S d) (h2 : b = false → AE V m tb Γ S d) : AE V m (tIf t ta tb) Γ S d := fun σ B H c H1 e Q q => h σ B H c H1 e _ fun H2 e2 => by
  cases b with
  | true => exact h1 rfl σ B H c H2 (e.trans e2) Q fun v H3 Hd g => q v H3 Hd (g.after e2)
  | false => exact h2 rfl σ B H c H2 (e.trans e2) Q fun v H3 Hd g => q v H3 Hd (g.after e2)
theorem ae_slT {lo hi : TO} {l h : Option Int} (ha : AE V m ta Γ S (.tuple ds)) (hl : ∀ σ B H, Ctx V Γ S σ B H → EvO lo σ H l) (hh : ∀ σ B H, Ctx V Γ S σ B H → EvO hi σ H h) : AE V m (tSl (rSlU V.K) ta lo hi) Γ S (.tuple (cutD ds l h)) := fun σ B H c H1 e Q q =>
  ha σ B H c H1 e _ fun v H2 A g hd => hl σ B H c H2 (e.trans g.ex) _ fun H3 e3 => hh σ B H c H3 ((e.trans g.ex).trans e3) _ fun H4 e4 => by
    obtain ⟨a, xs, rfl, hs, hall⟩ := dp_tup hd
    have hl := dpAll_len hall
    have g4 : Gr _ H1 H4 A := g.more (e3.trans e4)
    refine .inr (.inl ⟨a, xs, rfl, ex_t g4.d2 hs, fun hw => ?_, fun hw p hp => ?_⟩)
    · rw [hl] at hw
      refine q _ H4 A g4 ?_
      rw [cut_whole hw]
      exact .tup hs hall
    · exact q _ _ _ (g4.new _ hp) (.tup (st_of upd_same) (dpAll_ex (Ex.new (fresh_back g4.d2 hp)) _ _ (cutV_dp hall l h)))
theorem ae_slL {lo hi : TO} {l h : Option Int} (ha : AE V m ta Γ S (.list ds)) (hl : ∀ σ B H, Ctx V Γ S σ B H → EvO lo σ H l) (hh : ∀ σ B H, Ctx V Γ S σ B H → EvO hi σ H h) : AE V m (tSl (rSlU V.K) ta lo hi) Γ S (.list (cutD ds l h)) := fun σ B H c H1 e Q q =>
  ha σ B H c H1 e _ fun v H2 A g hd => hl σ B H c H2 (e.trans g.ex) _ fun H3 e3 => hh σ B H c H3 ((e.trans g.ex).trans e3) _ fun H4 e4 => by
    obtain ⟨a, xs, rfl, hs, hall⟩ := dp_lst hd
    have g4 : Gr _ H1 H4 A := g.more (e3.trans e4)
    exact .inl ⟨a, xs, rfl, sq_of (g4.d2 _ _ hs), fun p hp => q _ _ _ (g4.new _ hp) (.lst upd_same (dpAll_ex (Ex.new (fresh_back g4.d2 hp)) _ _ (cutV_dp hall l h)))⟩
theorem ao_none : ∀ σ B H, Ctx V Γ S σ B H → EvO tNoPart σ H none := fun σ B H c => eo_none
theorem ao_some {i : Int} (h : AE V m te Γ S (.int i)) : ∀ σ B H, Ctx V Γ S σ B H → EvO (tPart te) σ H (some i) := fun σ B H c => eo_some (evB_int (h σ B H c))
/-! tests -/
theorem at_b (h : AE V true te Γ S (.bool b)) : AT V (tTest te) Γ S b := fun σ B H c => et_test (evB_bl (h σ B H c))
theorem at_B (h : AE V true te Γ S (.bool b)) : AT V (tB te) Γ S b := fun σ B H c => et_B (evB_bl (h σ B H c))
theorem at_tru (h : AE V true te Γ S d) (ok : okD d = true) : AT V (tTrU V.K te) Γ S (truD d) := fun σ B H c => et_d (h σ B H c) ok
theorem at_and {a : Bool} (h1 : AT V t Γ S a) (h2 : a = true → AT V u Γ S b) : AT V (tAnd t u) Γ S (a && b) := fun σ B H c => et_and (h1 σ B H c) fun q => h2 q σ B H c
theorem at_or {a : Bool} (h1 : AT V t Γ S a) (h2 : a = false → AT V u Γ S b) : AT V (tOr t u) Γ S (a || b) := fun σ B H c => et_or (h1 σ B H c) fun q => h2 q σ B H c
theorem at_not (h : AT V t Γ S b) : AT V (tNot t) Γ S (!b) := fun σ B H c => et_not (h σ B H c)
theorem at_yes : AT V tYes Γ S true := fun σ B H c => et_yes
theorem ae_notD (h : AE V true te Γ S d) (ok : okD d = true) : AE V m (tNotT V.K te) Γ S (.bool (!truD d)) := fun σ B H c => evb_b c.sx (ev_notD (h σ B H c) ok)
theorem ae_andV {a : Bool} (h1 : AE V m ta Γ S (.bool a)) (h2 : a = true → AE V m tb Γ S (.bool b)) : AE V m (tAndV ta tb) Γ S (.bool (a && b)) := fun σ B H c => evb_b c.sx fun H1 e1 Q q => evB_bl (h1 σ B H c) H1 e1 _ fun H2 e2 => ⟨a, rfl, by
  cases a with
  | true => exact evB_bl (h2 rfl σ B H c) H2 (e1.trans e2) _ fun H3 e3 => q H3 (e2.trans e3)
  | false => exact q H2 e2⟩
theorem ae_orV {a : Bool} (h1 : AE V m ta Γ S (.bool a)) (h2 : a = false → AE V m tb Γ S (.bool b)) : AE V m (tOrV ta tb) Γ S (.bool (a || b)) := fun σ B H c => evb_b c.sx fun H1 e1 Q q => evB_bl (h1 σ B H c) H1 e1 _ fun H2 e2 => ⟨a, rfl, by
  cases a with
  | false => exact evB_bl (h2 rfl σ B H c) H2 (e1.trans e2) _ fun H3 e3 => q H3 (e2.trans e3)
  | true => exact q H2 e2⟩
/-! with changes -/
theorem am_op (ha : AM V ta Γ S d S1) (hb : AM V tb Γ S1 e S2) (hr : RvD V.K r d e z) : AM V (tOp r ta tb) Γ S z S2 := fun σ B H c Q k =>
  ha σ B H c _ fun x B1 H1 c1 e1 hx => hb σ B1 H1 c1 _ fun y B2 H2 c2 e2 hy => hr x y H2 B2 c2.x (dp_ex e2 _ _ hx) hy Q fun v H3 C g hv => k v C H3 (c2.gr g) (e1.trans (e2.trans g.xd)) hv
theorem ams_nil : AMs V tNil Γ S [] S := fun σ B H c Q k => k [] B H c (Ex.refl B) .nil
theorem ams_cons (h : AM V te Γ S d S1) (hr : AMs V tr Γ S1 ds S2) : AMs V (tCons te tr) Γ S (d :: ds) S2 := fun σ B H c Q k =>
  h σ B H c _ fun v B1 H1 c1 e1 hv => hr σ B1 H1 c1 _ fun vs B2 H2 c2 e2 hvs => k (v :: vs) B2 H2 c2 (e1.trans e2) (.cons (dp_ex e2 _ _ hv) hvs)
theorem am_tup (h : AMs V targs Γ S ds S') (hl : ds.length ≤ 100000) : AM V (tTup targs) Γ S (.tuple ds) S' := fun σ B H c Q k =>
  h σ B H c _ fun vs B1 H1 c1 e1 hvs => ⟨by rw [dpAll_len hvs]; exact sz_of hl, fun p hp => k (.ref p) _ _ (c1.gr ((Gr.base c1.x (Ex.refl _)).new _ hp)) (e1.trans (Ex.new (fresh_back c1.x hp))) (.tup (st_of upd_same) (dpAll_ex (Ex.new (fresh_back c1.x hp)) _ _ hvs))⟩
theorem am_lst (h : AMs V targs Γ S ds S') (hl : ds.length ≤ 100000) : AM V (tLst targs) Γ S (.list ds) S' := fun σ B H c Q k =>
  h σ B H c _ fun vs B1 H1 c1 e1 hvs => ⟨by rw [dpAll_len hvs]; exact sz_of hl, fun p hp => k (.ref p) _ _ (c1.gr ((Gr.base c1.x (Ex.refl _)).new _ hp)) (e1.trans (Ex.new (fresh_back c1.x hp))) (.lst upd_same (dpAll_ex (Ex.new (fresh_back c1.x hp)) _ _ hvs))⟩
theorem am_if (h : ATM V t Γ S b S1) (h1 : b = true → AM V ta Γ S1 d S2) (h2 : b = false → AM V tb Γ S1 d S2) : AM V (tIf t ta tb) Γ S d S2 := fun σ B H c Q k => h σ B H c _ fun B1 H1 c1 e1 => by
  cases b with
  | true => exact h1 rfl σ B1 H1 c1 Q fun v B2 H2 c2 e2 => k v B2 H2 c2 (e1.trans e2)
  | false => exact h2 rfl σ B1 H1 c1 Q fun v B2 H2 c2 e2 => k v B2 H2 c2 (e1.trans e2)
theorem atm_b (h : AM V te Γ S (.bool b) S') : ATM V (tTest te) Γ S b S' := fun σ B H c Q k => h σ B H c _ fun v B1 H1 c1 e1 hv => ⟨b, dp_bool hv, k B1 H1 c1 e1⟩
theorem atm_tru (h : AM V te Γ S d S') (ok : okD d = true) : ATM V (tTrU V.K te) Γ S (truD d) S' := fun σ B H c Q k => h σ B H c _ fun v B1 H1 c1 e1 hv => ⟨_, tru_dp (dp_ex c1.x _ _ hv) ok, k B1 H1 c1 e1⟩
theorem atm_not (h : ATM V t Γ S b S') : ATM V (tNot t) Γ S (!b) S' := fun σ B H c Q k => h σ B H c _ fun B1 H1 c1 e1 => k B1 H1 c1 e1
theorem atm_or {a : Bool} (h1 : ATM V t Γ S a S1) (h2 : a = false → ATM V u Γ S1 b S2) (h3 : a = true → S2 = S1) : ATM V (tOr t u) Γ S (a || b) S2 := fun σ B H c Q k => h1 σ B H c _ fun B1 H1 c1 e1 => by
  cases a with
  | true =>
    have := h3 rfl
    subst this
    exact k B1 H1 c1 e1
  | false => exact h2 rfl σ B1 H1 c1 Q fun B2 H2 c2 e2 => k B2 H2 c2 (e1.trans e2)
theorem atm_and {a : Bool} (h1 : ATM V t Γ S a S1) (h2 : a = true → ATM V u Γ S1 b S2) (h3 : a = false → S2 = S1) : ATM V (tAnd t u) Γ S (a && b) S2 := fun σ B H c Q k => h1 σ B H c _ fun B1 H1 c1 e1 => by
  cases a with
  | false =>
    have := h3 rfl
    subst this
    exact k B1 H1 c1 e1
  | true => exact h2 rfl σ B1 H1 c1 Q fun B2 H2 c2 e2 => k B2 H2 c2 (e1.trans e2)
theorem am_andV {a : Bool} (h1 : AM V ta Γ S (.bool a) S1) (h2 : a = true → AM V tb Γ S1 (.bool b) S2) (h3 : a = false → S2 = S1) : AM V (tAndV ta tb) Γ S (.bool (a && b)) S2 := fun σ B H c Q k => h1 σ B H c _ fun v B1 H1 c1 e1 hv => ⟨a, dp_bool hv, by
  cases a with
  | false =>
    have := h3 rfl
    subst this
    exact k _ B1 H1 c1 e1 (.bl _)
  | true => exact h2 rfl σ B1 H1 c1 Q fun v B2 H2 c2 e2 => k v B2 H2 c2 (e1.trans e2)⟩
theorem am_scB (h : AE V true te Γ S (.bool b)) : AM V te Γ S (.bool b) S := AE.am h.scB
/-! targets -/
theorem ag_name : AG V (gName j) Γ S d (Γ.set j (.dat d)) := fun σ B H v c hd Q k => k _ (c.dat hd)
theorem ag_pair : AG V (gTup V.K 2 (gCons (gName i) (gCons (gName j) gNil))) Γ S (.tuple [d, e]) ((Γ.set i (.dat d)).set j (.dat e)) := fun σ B H v c hd Q k => g_pair hd c.x fun a b ha hb => k _ ((c.dat ha).dat hb)
theorem ag_three {l : Nat} {f : PyData} : AG V (gTup V.K 3 (gCons (gName i) (gCons (gName j) (gCons (gName l) gNil)))) Γ S (.tuple [d, e, f]) (((Γ.set i (.dat d)).set j (.dat e)).set l (.dat f)) := fun σ B H v c hd Q k => by
  obtain ⟨p, xs, rfl, hs, hall⟩ := dp_tup hd
  obtain ⟨x, y, w, rfl, ha, hb, hc⟩ := dts3 hall
  exact ⟨p, [x, y, w], rfl, ex_t c.x hs, rfl, x, [y, w], rfl, y, [w], rfl, w, [], rfl, rfl, k _ (((c.dat ha).dat hb).dat hc)⟩
/-! statements -/
theorem a_seq {t u : TS} (h : AN V (t { D with nx := u D }) Γ S) : AN V (tSeq t u D) Γ S := h
theorem a_asg (h : AM V te Γ S d S') (hg : AG V g Γ S' d Γ') (k : AN V D.nx Γ' S') : AN V (tAsg te g D) Γ S := fun σ B H c => h σ B H c _ fun v B1 H1 c1 e1 hv => hg σ B1 H1 v c1 hv _ fun σ' c' => k σ' B1 H1 c'
theorem a_set (h : AE V false te Γ S d) (k : AN V D.nx (Γ.set i (.dat d)) S) : AN V (tAsg te (gName i) D) Γ S := a_asg h.am ag_name k
theorem a_setM (h : AM V te Γ S d S') (k : AN V D.nx (Γ.set i (.dat d)) S') : AN V (tAsg te (gName i) D) Γ S := a_asg h ag_name k
theorem a_drop (h : AM V te Γ S d S') (k : AN V D.nx Γ S') : AN V (tDrop te D) Γ S := fun σ B H c => h σ B H c _ fun v B1 H1 c1 e1 hv => k σ B1 H1 c1
theorem a_ifM (h : ATM V t Γ S b S') (h1 : b = true → AN V (tu D) Γ S') (h2 : b = false → AN V (tw D) Γ S') : AN V (tIfS t tu tw D) Γ S := fun σ B H c => h σ B H c _ fun B1 H1 c1 e1 => by
  cases b with
  | true => exact h1 rfl σ B1 H1 c1
  | false => exact h2 rfl σ B1 H1 c1
theorem a_if (h : AT V t Γ S b) (h1 : b = true → AN V (tu D) Γ S) (h2 : b = false → AN V (tw D) Γ S) : AN V (tIfS t tu tw D) Γ S := a_ifM h.am h1 h2
theorem a_skip (h : AT V t Γ S false) (k : AN V D.nx Γ S) : AN V (tIfS t tu tNext D) Γ S := a_if h (fun z => nomatch z) fun _ => k
theorem a_skipM (h : ATM V t Γ S false S') (k : AN V D.nx Γ S') : AN V (tIfS t tu tNext D) Γ S := a_ifM h (fun z => nomatch z) fun _ => k
theorem a_yes (h : AT V t Γ S true) (k : AN V (tu D) Γ S) : AN V (tIfS t tu tw D) Γ S := a_if h (fun _ => k) fun z => nomatch z
theorem a_no (h : AT V t Γ S false) (k : AN V (tw D) Γ S) : AN V (tIfS t tu tw D) Γ S := a_if h (fun z => nomatch z) fun _ => k
theorem a_ret (h : AM V te Γ S d S') (k : ∀ v B H Mf, Cst V S' Mf B H → Dt V.K B v d → D.rt v H) : AN V (tRet te D) Γ S := fun σ B H c => h σ B H c _ fun v B1 H1 c1 e1 hv => by
  obtain ⟨Mf, cs⟩ := c1.cs
  exact k v B1 H1 Mf cs hv
theorem a_retB (h : AM V te Γ S (.bool true) S') (k : ∀ H, D.rt (.bl true) H) : AN V (tRet te D) Γ S := a_ret h fun v B H Mf cs hv => by
  rw [dp_bool hv]
  exact k H
theorem a_in {I : List Sl → List Ob → Prop} (h : I Γ S) : AN V (IN V I) Γ S := fun σ B H c => ⟨Γ, S, B, c, h⟩
/-- more data are kept in mind -/
theorem Ctx.keep {σ : L2.St} {B H : Hp} (c : Ctx V Γ S σ B H) : Ctx { V with Bk := B } Γ S σ B H := by
  obtain ⟨Mf, cs⟩ := c.cs
  exact ⟨c.sl, Mf, ⟨cs.x, Ex.refl _, cs.ob, cs.dj, cs.nz, cs.mm, cs.t, cs.fr, cs.xd, cs.nw, cs.sy⟩⟩
theorem Ctx.less {σ : L2.St} {B H Bk : Hp} (c : Ctx { V with Bk := Bk } Γ S σ B H) (x : Ex V.Bk Bk) : Ctx V Γ S σ B H := by
  obtain ⟨Mf, cs⟩ := c.cs
  exact ⟨c.sl, Mf, ⟨cs.x, x.trans cs.bk, cs.ob, cs.dj, cs.nz, cs.mm, cs.t, cs.fr, cs.xd, cs.nw, cs.sy⟩⟩
theorem a_forR {n : Nat} (h : AEs V true targs Γ S [.int (n : Int)]) (hn : n ≤ 100000) (I : Nat → List Sl → List Ob → Prop) (h0 : I 0 Γ S)
    (hs : ∀ (i : Nat) Γ' S', i < n → I i Γ' S' → AN V (tu { D with nx := IN V (I (i + 1)), ct := IN V (I (i + 1)), bk := D.nx }) (Γ'.set j (.dat (.int (i : Int)))) S') (hd : ∀ Γ' S', I n Γ' S' → AN V D.nx Γ' S') : AN V (tFor (iRng1 targs) (gName j) tu D) Γ S := fun σ B H c =>
  s_forN (K := V.K) (H0 := H) (n := n) (h σ B H c) (Ex.refl _) hn (fun i => IN V (I i)) (fun H1 e => ⟨Γ, S, B, c.ex e, h0⟩) (fun i σ' H' hi ⟨Γ', S', B', c', hI⟩ => hs i Γ' S' hi hI _ B' H' (c'.dat (.int _))) fun σ' H' ⟨Γ', S', B', c', hI⟩ => hd Γ' S' hI σ' B' H' c'
/-- a for over a list, a tuple, that are told -/
theorem a_forL {α : Type} {xs : List α} (f : α → PyData) (h : AM V tl Γ S (.list (xs.map f)) S1) (I : Nat → List Sl → List Ob → Prop) (h0 : I 0 Γ S1)
    (hs : ∀ Bk, Ex V.Bk Bk → ∀ (i : Nat) (a : α) Γ' S', xs[i]? = some a → I i Γ' S' → ∃ Γ2, AG { V with Bk := Bk } g Γ' S' (f a) Γ2 ∧ AN { V with Bk := Bk } (tu { D with nx := IN { V with Bk := Bk } (I (i + 1)), ct := IN { V with Bk := Bk } (I (i + 1)), bk := D.nx }) Γ2 S')
    (hd : ∀ Γ' S', I xs.length Γ' S' → AN V D.nx Γ' S') : AN V (tFor (iSeq V.K tl) g tu D) Γ S := fun σ B H c => by
  refine .inl (h σ B H c _ fun v B1 H1 c1 e1 hv => ?_)
  obtain ⟨a, ys, rfl, hs1, hall⟩ := dp_lst hv
  have hl := dpAll_len hall
  rw [List.length_map] at hl
  refine ⟨a, rfl, ⟨ys, sq_of (c1.x _ _ hs1)⟩, for_list (K := V.K) (a := a) (xs := ys) (fun i => IN { V with Bk := B1 } (I i)) ⟨Γ, S1, B1, c1.keep, h0⟩ (fun i σ' H' _ ⟨Γ', S', B', c', hI⟩ => sq_of (c'.x _ _ (c'.bk _ _ hs1))) (fun i y σ' H' hi ⟨Γ', S', B', c', hI⟩ => ?_) fun σ' H' ⟨Γ', S', B', c', hI⟩ => hd Γ' S' (by rw [← hl]; exact hI) σ' B' H' (c'.less c1.bk)⟩
  obtain ⟨d, hdi, hx⟩ := dpAll_of hall hi
  rw [List.getElem?_map] at hdi
  obtain ⟨b, hb, rfl⟩ := Option.map_eq_some_iff.mp hdi
  obtain ⟨Γ2, g2, n2⟩ := hs B1 c1.bk i b Γ' S' hb hI
  exact g2 σ' B' H' y c' (dp_ex c'.bk _ _ hx) _ fun σ2 c2 => n2 σ2 B' H' c2
theorem a_forT {α : Type} {xs : List α} (f : α → PyData) (h : AM V tl Γ S (.tuple (xs.map f)) S1) (I : Nat → List Sl → List Ob → Prop) (h0 : I 0 Γ S1)
    (hs : ∀ Bk, Ex V.Bk Bk → ∀ (i : Nat) (a : α) Γ' S', xs[i]? = some a → I i Γ' S' → ∃ Γ2, AG { V with Bk := Bk } g Γ' S' (f a) Γ2 ∧ AN { V with Bk := Bk } (tu { D with nx := IN { V with Bk := Bk } (I (i + 1)), ct := IN { V with Bk := Bk } (I (i + 1)), bk := D.nx }) Γ2 S')
    (hd : ∀ Γ' S', I xs.length Γ' S' → AN V D.nx Γ' S') : AN V (tFor (iSeq V.K tl) g tu D) Γ S := fun σ B H c => by
  refine .inr (.inl (h σ B H c _ fun v B1 H1 c1 e1 hv => ?_))
  obtain ⟨a, ys, rfl, hs1, hall⟩ := dp_tup hv
  have hl := dpAll_len hall
  rw [List.length_map] at hl
  refine ⟨a, rfl, ⟨ys, ex_t c1.x hs1⟩, for_tup (K := V.K) (a := a) (xs := ys) (fun i => IN { V with Bk := B1 } (I i)) ⟨Γ, S1, B1, c1.keep, h0⟩ (fun i σ' H' _ ⟨Γ', S', B', c', hI⟩ => ex_t (c'.bk.trans c'.x) hs1) (fun i y σ' H' hi ⟨Γ', S', B', c', hI⟩ => ?_) fun σ' H' ⟨Γ', S', B', c', hI⟩ => hd Γ' S' (by rw [← hl]; exact hI) σ' B' H' (c'.less c1.bk)⟩
  obtain ⟨d, hdi, hx⟩ := dpAll_of hall hi
  rw [List.getElem?_map] at hdi
  obtain ⟨b, hb, rfl⟩ := Option.map_eq_some_iff.mp hdi
  obtain ⟨Γ2, g2, n2⟩ := hs B1 c1.bk i b Γ' S' hb hI
  exact g2 σ' B' H' y c' (dp_ex c'.bk _ _ hx) _ fun σ2 c2 => n2 σ2 B' H' c2
end
end LC

namespace LC
open PySem PySem.Spec PyProof.Rows L2 Evl LamX NdefX
section
variable {V : Nv} {Γ Γ' : List Sl} {S S1 S2 S' : List Ob} {σ : L2.St} {B B' H H' : Hp} {Mf : Nat → Addr → Prop} {O O' : Ob} {m : Bool} {te ta tb tl : TE} {t u : TT} {targs tr : TA} {d e z : PyData} {ds : List PyData} {D : Ends} {tu tw : TS} {g : TG} {i j k : Nat} {b : Bool} {r : R2} {vs : List Nat}
/-- a new object of several parts -/
theorem Cst.newM {M : Addr → Prop} (c : Cst V S Mf B H) (e : Ex H H') (hM : ∀ a, M a → H a = none) (ho : O.ok M B H') : Cst V (S ++ [O]) (fun j => if j = S.length then M else Mf j) B H' := by
  have c' := c.gr (Gr.base c.x e)
  have np : ∀ j a, M a → ¬ Mf j a := fun j a h m => (c.pl m).2.ne (hM a h)
  refine ⟨c'.x, c'.bk, fun j P hj => ?_, fun i j a h1 h2 => ?_, fun j a h => ?_, fun j a h => ?_, c'.t, c'.fr, c'.xd, c'.nw, c'.sy⟩
  · by_cases z : j = S.length
    · subst z
      rw [List.getElem?_append_right (Nat.le_refl _), Nat.sub_self] at hj
      cases hj
      rw [if_pos rfl]
      exact ho
    · rw [if_neg z]
      by_cases lt : j < S.length
      · rw [List.getElem?_append_left lt] at hj
        exact c'.ob j P hj
      · rw [List.getElem?_append_right (by omega)] at hj
        have : j - S.length ≠ 0 := by omega
        cases q : j - S.length with
        | zero => exact absurd q this
        | succ n => rw [q] at hj; cases hj
  · by_cases e1 : i = S.length <;> by_cases e2 : j = S.length
    · rw [e1, e2]
    · rw [if_pos e1] at h1
      rw [if_neg e2] at h2
      exact (np j a h1 h2).elim
    · rw [if_pos e2] at h2
      rw [if_neg e1] at h1
      exact (np i a h2 h1).elim
    · rw [if_neg e1] at h1
      rw [if_neg e2] at h2
      exact c.dj i j a h1 h2
  · rw [List.length_append]
    by_cases z : j = S.length
    · rw [z]; exact Nat.lt_succ_self _
    · rw [if_neg z] at h
      exact Nat.lt_of_lt_of_le (c.nz j a h) (Nat.le_add_right _ _)
  · by_cases z : j = S.length
    · rw [if_pos z] at h
      right
      cases q : V.H0 a with
      | none => rfl
      | some o => exact absurd (hM a h) (c.sy a (by rw [q]; exact fun z => nomatch z))
    · rw [if_neg z] at h
      exact c.mm j a h
/-! comprehensions -/
theorem outX_snoc {α : Type} {xs : List α} {i : Nat} {a : α} (f : α → Bool) (g : α → PyData) (h : xs[i]? = some a) :
    ((xs.take (i + 1)).filter f).map g = if f a then ((xs.take i).filter f).map g ++ [g a] else ((xs.take i).filter f).map g := by
  rw [List.take_add_one, h, Option.toList, List.filter_append, List.map_append]
  cases q : f a with
  | true => simp [q]
  | false => simp [q]
theorem outX_len {α : Type} {xs : List α} (f : α → Bool) (g : α → PyData) (i : Nat) : (((xs.take i).filter f).map g).length ≤ xs.length := by
  rw [List.length_map]
  refine Nat.le_trans (List.length_filter_le _ _) ?_
  rw [List.length_take]
  omega
theorem ae_lcL {α : Type} {xs : List α} {tt : TT} (f0 : α → PyData) (f : α → Bool) (g : α → PyData) (h : AE V false tl Γ S (.list (xs.map f0))) (hz : xs.length ≤ 40000) (hj : j ∈ vs)
    (ht : ∀ a ∈ xs, AT V tt ((wipeS Γ vs).set j (.dat (f0 a))) S (f a)) (he : ∀ a ∈ xs, f a = true → AE V false te ((wipeS Γ vs).set j (.dat (f0 a))) S (g a)) :
    AE V false (tLc (iSeq V.K tl) (gName j) tt te vs) Γ S (.list ((xs.filter f).map g)) := fun σ B H c H1 e Q q => by
  refine .inl (h σ B H c H1 e _ fun v H2 A gr hd => ?_)
  obtain ⟨a, ys, rfl, hs, hall⟩ := dp_lst hd
  have hlen := dpAll_len hall
  rw [List.length_map] at hlen
  refine ⟨a, rfl, ⟨ys, sq_of (gr.d2 _ _ hs)⟩, fun D hD => ?_⟩
  have c2 := c.gr (gr.after e)
  refine lc_list (K := V.K) (a := a) (xs := ys) (fun i H' => Acc V.K A H2 D (((xs.take i).filter f).map g) H') (Acc.nil gr.d2 hD) (fun i H' _ p => sq_of (p.base _ _ hs)) (fun i x H' hi p => ?_) fun H' p => ?_
  · obtain ⟨d, hdi, hx⟩ := dpAll_of hall hi
    rw [List.getElem?_map] at hdi
    obtain ⟨w, hw, rfl⟩ := Option.map_eq_some_iff.mp hdi
    have hm : w ∈ xs := List.mem_of_getElem? hw
    have hl := outX_len (xs := xs) f g i
    have c3 := (c2.wipe vs).dat (i := j) hx
    refine ⟨wipe_set hj, ?_⟩
    rw [outX_snoc f g hw]
    exact lc_turnE gr.d2 hD p (by omega) (ht w hm _ A H2 c3) (fun hf => he w hm hf _ A H2 c3)
  · have p2 : Acc V.K A H2 D (((xs.take ys.length).filter f).map g) H' := p
    rw [hlen, List.take_length] at p2
    obtain ⟨Hd, g1, g2⟩ := p2.done gr.xd gr.fr gr.ex hD
    exact q _ H' Hd g1 g2
theorem ae_lcT {α : Type} {xs : List α} {tt : TT} (f0 : α → PyData) (f : α → Bool) (g : α → PyData) (h : AE V false tl Γ S (.tuple (xs.map f0))) (hz : xs.length ≤ 40000) (hj : j ∈ vs)
    (ht : ∀ a ∈ xs, AT V tt ((wipeS Γ vs).set j (.dat (f0 a))) S (f a)) (he : ∀ a ∈ xs, f a = true → AE V false te ((wipeS Γ vs).set j (.dat (f0 a))) S (g a)) :
    AE V false (tLc (iSeq V.K tl) (gName j) tt te vs) Γ S (.list ((xs.filter f).map g)) := fun σ B H c H1 e Q q => by
  refine .inr (.inl (h σ B H c H1 e _ fun v H2 A gr hd => ?_))
  obtain ⟨a, ys, rfl, hs, hall⟩ := dp_tup hd
  have hlen := dpAll_len hall
  rw [List.length_map] at hlen
  refine ⟨a, rfl, ⟨ys, ex_t gr.d2 hs⟩, fun D hD => ?_⟩
  have c2 := c.gr (gr.after e)
  refine lc_tup (K := V.K) (a := a) (xs := ys) (fun i H' => Acc V.K A H2 D (((xs.take i).filter f).map g) H') (Acc.nil gr.d2 hD) (fun i H' _ p => ex_t p.base hs) (fun i x H' hi p => ?_) fun H' p => ?_
  · obtain ⟨d, hdi, hx⟩ := dpAll_of hall hi
    rw [List.getElem?_map] at hdi
    obtain ⟨w, hw, rfl⟩ := Option.map_eq_some_iff.mp hdi
    have hm : w ∈ xs := List.mem_of_getElem? hw
    have hl := outX_len (xs := xs) f g i
    have c3 := (c2.wipe vs).dat (i := j) hx
    refine ⟨wipe_set hj, ?_⟩
    rw [outX_snoc f g hw]
    exact lc_turnE gr.d2 hD p (by omega) (ht w hm _ A H2 c3) (fun hf => he w hm hf _ A H2 c3)
  · have p2 : Acc V.K A H2 D (((xs.take ys.length).filter f).map g) H' := p
    rw [hlen, List.take_length] at p2
    obtain ⟨Hd, g1, g2⟩ := p2.done gr.xd gr.fr gr.ex hD
    exact q _ H' Hd g1 g2
/-- with a pair as the target -/
theorem ae_lcP {α : Type} {xs : List α} {tt : TT} {j1 j2 : Nat} (f1 f2 : α → PyData) (f : α → Bool) (g : α → PyData) (h : AE V false tl Γ S (.list (xs.map fun a => .tuple [f1 a, f2 a]))) (hz : xs.length ≤ 40000) (hj1 : j1 ∈ vs) (hj2 : j2 ∈ vs)
    (ht : ∀ a ∈ xs, AT V tt (((wipeS Γ vs).set j1 (.dat (f1 a))).set j2 (.dat (f2 a))) S (f a)) (he : ∀ a ∈ xs, f a = true → AE V false te (((wipeS Γ vs).set j1 (.dat (f1 a))).set j2 (.dat (f2 a))) S (g a)) :
    AE V false (tLc (iSeq V.K tl) (gTup V.K 2 (gCons (gName j1) (gCons (gName j2) gNil))) tt te vs) Γ S (.list ((xs.filter f).map g)) := fun σ B H c H1 e Q q => by
  refine .inl (h σ B H c H1 e _ fun v H2 A gr hd => ?_)
  obtain ⟨a, ys, rfl, hs, hall⟩ := dp_lst hd
  have hlen := dpAll_len hall
  rw [List.length_map] at hlen
  refine ⟨a, rfl, ⟨ys, sq_of (gr.d2 _ _ hs)⟩, fun D hD => ?_⟩
  have c2 := c.gr (gr.after e)
  refine lc_list (K := V.K) (a := a) (xs := ys) (fun i H' => Acc V.K A H2 D (((xs.take i).filter f).map g) H') (Acc.nil gr.d2 hD) (fun i H' _ p => sq_of (p.base _ _ hs)) (fun i x H' hi p => ?_) fun H' p => ?_
  · obtain ⟨d, hdi, hx⟩ := dpAll_of hall hi
    rw [List.getElem?_map] at hdi
    obtain ⟨w, hw, rfl⟩ := Option.map_eq_some_iff.mp hdi
    have hm : w ∈ xs := List.mem_of_getElem? hw
    have hl := outX_len (xs := xs) f g i
    refine g_pair (K := V.K) (A := A) hx p.base fun u1 u2 d1 d2 => ?_
    have c3 := ((c2.wipe vs).dat (i := j1) d1).dat (i := j2) d2
    refine ⟨?_, ?_⟩
    · refine List.ext_getElem? fun n => ?_
      by_cases hl : n < σ.length
      · by_cases hi : n ∈ vs
        · rw [wipe_in hi hl, wipe_in hi (by rw [List.length_set, List.length_set, wipe_length]; exact hl)]
        · rw [wipe_out hi, List.getElem?_set_ne (fun z : j2 = n => hi (by rw [← z]; exact hj2)), List.getElem?_set_ne (fun z : j1 = n => hi (by rw [← z]; exact hj1))]
      · rw [List.getElem?_eq_none (by rw [wipe_length, List.length_set, List.length_set, wipe_length]; omega), List.getElem?_eq_none (by rw [wipe_length]; omega)]
    rw [outX_snoc f g hw]
    exact lc_turnE gr.d2 hD p (by omega) (ht w hm _ A H2 c3) (fun hf => he w hm hf _ A H2 c3)
  · have p2 : Acc V.K A H2 D (((xs.take ys.length).filter f).map g) H' := p
    rw [hlen, List.take_length] at p2
    obtain ⟨Hd, g1, g2⟩ := p2.done gr.xd gr.fr gr.ex hD
    exact q _ H' Hd g1 g2
theorem ae_lcR {n : Nat} {tt : TT} (f : Nat → Bool) (g : Nat → PyData) (h : AEs V false targs Γ S [.int (n : Int)]) (hz : n ≤ 40000) (hj : j ∈ vs)
    (ht : ∀ i, i < n → AT V tt ((wipeS Γ vs).set j (.dat (.int (i : Int)))) S (f i)) (he : ∀ i, i < n → f i = true → AE V false te ((wipeS Γ vs).set j (.dat (.int (i : Int)))) S (g i)) :
    AE V false (tLc (iRng1 targs) (gName j) tt te vs) Γ S (.list (((List.range n).filter f).map g)) := fun σ B H c =>
  evb_lcR f g (h σ B H c) hz (fun x => wipe_set hj) (fun i B1 H1 gr hi => ht i hi _ B1 H1 (((c.gr gr).wipe vs).dat (.int _))) fun i B1 H1 gr hi hf => he i hi hf _ B1 H1 (((c.gr gr).wipe vs).dat (.int _))
/-! ### notebooks -/
variable {W : NbC} {nb : Addr} {st st' : NbS} {E : L2.St → XK} {mm : Str}
theorem ae_q {R : NbS → List PyData → (PyData ⊕ Addr) → Prop} (nf : NoF mm) (hi : Γ[i]? = some (.at nb)) (hk : S[k]? = some (nbO V.K W nb st)) (hG : NbG st) (ha : AEs V false targs Γ S ds) (hf : R st ds (.inl d)) : AE V false (tMet W.N mm (spNq V.K W R) E (tVar i) targs) Γ S d := fun σ B H c => by
  obtain ⟨Mf, cs⟩ := c.cs
  exact evb_q nf (AV.at hi σ B H c) (cs.ob k _ hk).1 hG (ha σ B H c) hf
theorem ae_qC {R : NbS → List PyData → (PyData ⊕ Addr) → Prop} (nf : NoF mm) (hi : Γ[i]? = some (.at nb)) (hk : S[k]? = some (nbO V.K W nb st)) (hG : NbG st) (ha : AEs V false targs Γ S ds) (hf : R st ds (.inl d)) : AE V false (tMet W.N mm (calmS (spNq V.K W R)) E (tVar i) targs) Γ S d := fun σ B H c => by
  obtain ⟨Mf, cs⟩ := c.cs
  exact evb_qC nf (AV.at hi σ B H c) (cs.ob k _ hk).1 hG (ha σ B H c) hf
theorem ae_fq {R : NbS → List PyData → (PyData ⊕ Addr) → Prop} {E : XK} (hi : Γ[i]? = some (.at nb)) (hk : S[k]? = some (nbO V.K W nb st)) (hG : NbG st) (ha : AEs V false targs Γ S ds) (hf : R st ds (.inl d)) : AE V false (tCall (spNq V.K W R) [] E (tCons (tVar i) targs)) Γ S d := fun σ B H c => by
  obtain ⟨Mf, cs⟩ := c.cs
  exact evb_fq (AV.at hi σ B H c) (cs.ob k _ hk).1 hG (ha σ B H c) hf
theorem am_met {R : NbS → List PyData → (PyData ⊕ Addr) → NbS → Prop} (nf : NoF mm) (hi : Γ[i]? = some (.at nb)) (hk : S[k]? = some (nbO V.K W nb st)) (hG : NbG st) (ha : AEs V false targs Γ S ds) (hf : R st ds (.inl d) st') : AM V (tMet W.N mm (spNb V.K W R) E (tVar i) targs) Γ S d (S.set k (nbO V.K W nb st')) := fun σ B H c Q q => by
  obtain ⟨Mf, cs⟩ := c.cs
  obtain ⟨hN, hp⟩ := cs.ob k _ hk
  refine t_met nf (AV.at hi σ B H c) hN hG (ha σ B H c) hf (fun d' e v H' B' M' f hN' hd => ?_) fun c e => by cases e
  cases e
  obtain ⟨M1, sub, ok⟩ := hN'.core
  exact q v B' H' (c.to f.xd (cs.step hk f.tabs ((cs.t.of hp).fr f) sub ok)) f.xd hd
theorem t_metT {K : Frag} {T : NbC} {TT : List NTab} {M : Addr → Prop} {ta : TE} {o : PyData ⊕ Addr} {Q : VK} {R : NbS → List PyData → (PyData ⊕ Addr) → NbS → Prop} (nf : NoF mm) (hs : Ev ta σ H (.ref nb)) (hN : NB K T M B H nb st) (ht : TB TT M B H) (hG : Sit st) (ha : EvBs K targs σ B H ds) (hf : R st ds o st')
    (k1 : ∀ d, o = .inl d → ∀ v H' B' M', Fr (Mt TT M) (Mt TT M') B H H' B' → NB K T M' B' H' nb st' → TB TT M' B' H' → Dt K B' v d → Q v H') (k2 : ∀ c, o = .inr c → ∀ H', Ex H H' → E σ (.ref c) none H') : tMet T.N mm (spNbT K T TT R) E ta targs σ H Q := by
  refine hs H (Ex.refl H) _ fun H1 e1 => ?_
  obtain ⟨dn, c, r, kvs, ad, L⟩ := hN
  refine ⟨nb, dn, _, rfl, e1 _ _ L.hn, nf _ _ _, ?_⟩
  refine ha H1 e1 _ fun vs H2 Hd g hds => ?_
  have g2 : Gr B H H2 Hd := g.after e1
  exact ⟨M, Hd, nb, st, vs, ds, o, st', rfl, (L.gr g2).toNB, ht.gr g2, hG, hds, hf, fun d e v H' B' M' f => k1 d e v H' B' M' ((Fr.of (M := Mt TT M) g2).trans f), fun c e H' e' => k2 c e H' (g2.ex.trans e')⟩
theorem am_metT {R : NbS → List PyData → (PyData ⊕ Addr) → NbS → Prop} (nf : NoF mm) (hi : Γ[i]? = some (.at nb)) (hk : S[k]? = some (nbO V.K W nb st)) (hG : Sit st) (ha : AEs V false targs Γ S ds) (hf : R st ds (.inl d) st') : AM V (tMet W.N mm (spNbT V.K W V.TT R) E (tVar i) targs) Γ S d (S.set k (nbO V.K W nb st')) := fun σ B H c Q q => by
  obtain ⟨Mf, cs⟩ := c.cs
  obtain ⟨hN, hp⟩ := cs.ob k _ hk
  refine t_metT nf (AV.at hi σ B H c) hN (cs.t.of hp) hG (ha σ B H c) hf (fun d' e v H' B' M' f hN' t' hd => ?_) fun c e => by cases e
  cases e
  obtain ⟨M1, sub, ok⟩ := hN'.core
  exact q v B' H' (c.to f.xd (cs.step hk f t' sub ok)) f.xd hd
/-- a new notebook -/
theorem a_newnb {E : XK} (h : ∀ nb, AN V D.nx (Γ.set i (.at nb)) (S ++ [nbO V.K W nb st0])) : AN V (tAsg (tMake W.N (spNbI V.K W) [] E tNil) (gName i) D) Γ S := fun σ B H c => by
  refine s_new_nb (K := V.K) c.x fun nb H' M e hN hM => ?_
  obtain ⟨Mf, cs⟩ := c.cs
  obtain ⟨M1, sub, ok⟩ := hN.core
  have c' := c.to (Ex.refl B) (cs.newM e (fun a ha => hM a (sub a ha)) ok)
  exact h nb _ B H' (c'.set (show SlOk V.K B (.at nb) (some (.ref nb)) from rfl))
/-! ### lists of one's own -/
theorem a_lnew (hx : AEs V false targs Γ S ds) (hl : ds.length ≤ 100000) (h : ∀ p, V.H0 p = none → AN V D.nx (Γ.set i (.at p)) (S ++ [lstO V.K p ds])) : AN V (tAsg (tLst targs) (gName i) D) Γ S := fun σ B H c => by
  refine hx σ B H c H (Ex.refl H) _ fun ws H1 B1 gr hds => ⟨by rw [dpAll_len hds]; exact sz_of hl, fun p hp => ?_⟩
  have c1 := c.gr gr
  obtain ⟨Mf, cs⟩ := c1.cs
  have h0 : V.H0 p = none := by
    cases q : V.H0 p with
    | none => rfl
    | some o => exact absurd hp (cs.sy p (by rw [q]; exact fun z => nomatch z))
  have c' := c1.to (Ex.refl B1) (cs.newM (O := lstO V.K p ds) (M := fun a => a = p) (H' := upd H1 p (.lst ws)) (Ex.new hp) (fun a ha => by rw [ha]; exact hp) ⟨fun a => Iff.rfl, fresh_back cs.x hp, ws, upd_same, hds⟩)
  exact h p h0 _ B1 _ (c'.set (show SlOk V.K B1 (.at p) (some (.ref p)) from rfl))
theorem Cst.wr {p : Addr} {u : HO} {M : Addr → Prop} (c : Cst V S Mf B H) (hk : S[k]? = some O) (hm : Mf k p) (ho : O'.ok (Mf k) B (upd H p u)) : Cst V (S.set k O') (fun j => if j = k then Mf k else Mf j) B (upd H p u) := by
  have := c.pl hm
  have f : Fr (Mf k) (Mf k) B H (upd H p u) B := fr_upd c.x hm this.1 this.2.ne
  exact c.step hk f.tabs ((c.t.of fun a m => (c.pl m).2).fr f) (fun a h => h) ho
theorem a_app {p : Addr} (hi : Γ[i]? = some (.at p)) (h : AM V te Γ S d S1) (h0 : ∃ ks, S[k]? = some (lstO V.K p ks)) (hk : S1[k]? = some (lstO V.K p ds)) (hl : ds.length < 100000) (q : AN V D.nx Γ (S1.set k (lstO V.K p (ds ++ [d])))) : AN V (tDrop (tBM V.K "list" rAppend (tVar i) (tCons te tNil)) D) Γ S := fun σ B H c => by
  have ha := AV.at (V := V) (S := S) hi σ B H c
  generalize tVar i = ta at ha ⊢
  refine ha H (Ex.refl H) _ fun H1 e1 => ?_
  have c1 := c.ex e1
  obtain ⟨Mf, cs⟩ := c1.cs
  obtain ⟨ks, h0⟩ := h0
  obtain ⟨_, _, xs, hx, _⟩ := cs.ob k _ h0
  refine ⟨.inl ⟨rfl, xs, sq_of hx⟩, h σ B H1 c1 _ fun v B2 H2 c2 e2 hv => ?_⟩
  obtain ⟨Mf2, cs2⟩ := c2.cs
  obtain ⟨m1, m2, ys, m3, m4⟩ := cs2.ob k _ hk
  refine ⟨p, ys, v, rfl, rfl, m3, by rw [dpAll_len m4]; exact sz_lt hl, ?_⟩
  exact q σ B2 _ (c2.to (Ex.refl B2) (cs2.wr (O' := lstO V.K p (ds ++ [d])) (M := M00) hk ((m1 p).mpr rfl) ⟨m1, m2, _, upd_same, dpAll_app m4 (.cons hv .nil)⟩))
/-- it goes to the data -/
theorem a_frz {nx : L2.St → Hp → Prop} {p : Addr} (hi : Γ[i]? = some (.at p)) (hk : S[k]? = some (lstO V.K p ds)) (h0 : V.H0 p = none) (q : AN V nx (Γ.set i (.dat (.list ds))) (S.set k noO)) : AN V nx Γ S := fun σ B H c => by
  obtain ⟨Mf, cs⟩ := c.cs
  obtain ⟨m1, m2, ys, m3, m4⟩ := cs.ob k _ hk
  have c' := c.to (Ex.new m2) (cs.frz hk m1 m3 h0)
  exact q σ _ H (c'.slot hi (.lst upd_same (dpAll_ex (Ex.new m2) _ _ m4)))
end
/-! ### the law -/
noncomputable abbrev lawV (K : Frag) (TT : List NTab) (H : Hp) : Nv := ⟨K, TT, M00, hide (Tb TT) H, H, hide (Tb TT) H⟩
theorem told_no {TT : List NTab} {H : Hp} (h : ∀ p ∈ TT, H p.1 = some (.tbl #[])) (c : Addr) : ¬ Told TT H c := fun ⟨p, hp, ps, pos, h1, h2⟩ => by
  rw [h p hp] at h1
  cases h1
  cases h2
theorem law_start {K : Frag} {TT : List NTab} {H : Hp} {a : Addr} {N : List Str} {Γ : List Sl} (h : ∀ p ∈ TT, H p.1 = some (.tbl #[])) (hΓ : ∀ i s, Γ[i]? = some s → s = .any ∨ (i = 0 ∧ s = .at a)) (hl : Γ.length ≤ (start N [.ref a]).length) (h0 : (start N [.ref a])[0]? = some (some (.ref a))) : Ctx (lawV K TT H) Γ [] (start N [.ref a]) (hide (Tb TT) H) H := by
  have x : Ex (hide (Tb TT) H) H := fun b o e => (hide_some e).2
  refine ⟨fun i s hi => ?_, fun _ => M00, ⟨x, Ex.refl _, fun k O hk => (nomatch hk), fun j k b z => z.elim, fun k b z => z.elim, fun k b z => z.elim, ⟨fun p hp => ⟨#[], h p hp, trivial, fun pos cv hc => by cases hc⟩, fun p hp => ⟨fun z => z, hide_in ⟨p, hp, rfl⟩⟩, fun c hc => (told_no h c hc).elim⟩, fun b o e _ => e, Ex.refl _, fun b hb _ => hb, fun b hb => hb⟩⟩
  have lt : i < (start N [.ref a]).length := Nat.lt_of_lt_of_le (List.getElem?_eq_some_iff.mp hi).1 hl
  rcases hΓ i s hi with rfl | ⟨rfl, rfl⟩
  · exact ⟨_, List.getElem?_eq_getElem lt, trivial⟩
  · exact ⟨_, h0, rfl⟩
theorem law_go {K : Frag} {TT : List NTab} {H : Hp} {a : Addr} {ns : List Int} {N : List Str} {n : Nat} {nx : L2.St → Hp → Prop} (h : ∀ p ∈ TT, H p.1 = some (.tbl #[])) (hS : SqL K H a (ns.map V.int)) (hN : start N [.ref a] = some (.ref a) :: List.replicate n none)
    (k : SqL K (lawV K TT H).Bk a (ns.map V.int) → AN (lawV K TT H) nx (.at a :: List.replicate n .any) []) : nx (start N [.ref a]) H := by
  have nt : ¬ Tb TT a ∨ ∀ H', SqL K H' a (ns.map V.int) := by
    rcases hS with (hS | ⟨o, hS⟩) | hS
    · left
      rintro ⟨p, hp, rfl⟩
      rw [h p hp] at hS
      cases hS
    · left
      rintro ⟨p, hp, rfl⟩
      rw [h p hp] at hS
      cases hS
    · exact .inr fun H' => .inr hS
  have hS' : SqL K (hide (Tb TT) H) a (ns.map V.int) := by
    rcases nt with nt | nt
    · rcases hS with (hS | ⟨o, hS⟩) | hS
      · exact .inl (.inl (by rw [hide_out nt]; exact hS))
      · exact .inl (.inr ⟨o, by rw [hide_out nt]; exact hS⟩)
      · exact .inr hS
    · exact nt _
  refine k hS' _ _ _ (law_start h (fun i s hi => ?_) (by rw [hN]; simp) (by rw [hN]; rfl))
  cases i with
  | zero =>
    cases hi
    exact .inr ⟨rfl, rfl⟩
  | succ i =>
    left
    have hi : (List.replicate n Sl.any)[i]? = some s := hi
    exact (List.eq_of_mem_replicate (List.mem_of_getElem? hi))
theorem ae_cell {V : Nv} {Γ : List Sl} {S : List Ob} {m : Bool} {ti : TE} {a : Addr} {ns : List Int} {k : Int} {E : XK} (hi : Γ[0]? = some (.at a)) (hk : AE V true ti Γ S (.int k)) (hS : SqL V.K V.Bk a (ns.map L2.V.int)) (h0 : 0 ≤ k) (hl : ns.length ≤ 63) : AE V m (tCall (spLcell V.K) [] E (tCons (tVar 0) (tCons ti tNil))) Γ S (.int (cellAt ns k)) := fun σ B H c =>
  evb_i c.sx (ev_int (K := V.K) (evd_cell (AV.at hi σ B H c) (evB_int (hk σ B H c)) (ex_l (c.bk.trans c.x) hS) h0 hl))
end LC

namespace LC
open PySem PySem.Spec PyProof.Rows L2 Evl LamX NdefX
/-! ### plain: what is fresh, by a rule -/
theorem holds_congr {st : NbS} {n : Nat} {f f' : List Nat} (h : ∀ x m, setterF st n x = some m → (m ∈ f ↔ m ∈ f')) : holdsB st n f = holdsB st n f' := by
  unfold holdsB
  cases (st.cell n).recd with
  | none => rfl
  | some r =>
    dsimp only
    congr 1
    refine congrArg (fun p => r.asked.all p) (funext fun q => ?_)
    unfold okAsk
    cases hs : setterF st n q.1 with
    | none => rfl
    | some m =>
      dsimp only
      have := h q.1 m hs
      simp [this]
theorem setter_ahead {st : NbS} (nd : st.row.Nodup) {i n m : Nat} {x : Str} (hq : st.row[i]? = some n) (h : setterF st n x = some m) : m ∈ st.row.take i := by
  obtain ⟨h1, _⟩ := setterL_mem _ h
  unfold ahead at h1
  rw [take_idx nd hq] at h1
  exact h1
theorem fresh_by {st : NbS} (nd : st.row.Nodup) (p : Nat → Bool) (h : ∀ n ∈ st.row, p n = (!(st.cell n).struck && holdsB st n (st.row.filter p))) : freshL st = st.row.filter p := by
  have go : ∀ i, i ≤ st.row.length → freshGo st (st.row.take i) = (st.row.take i).filter p := by
    intro i
    induction i with
    | zero => intro _; rfl
    | succ i ih =>
      intro hi
      have hq : st.row[i]? = some st.row[i] := List.getElem?_eq_getElem hi
      have e : st.row.take (i + 1) = st.row.take i ++ [st.row[i]] := by rw [List.take_add_one, hq]; rfl
      have hc : holdsB st st.row[i] ((st.row.take i).filter p) = holdsB st st.row[i] (st.row.filter p) := holds_congr fun x m hm => by
        have h1 := setter_ahead nd hq hm
        rw [List.mem_filter, List.mem_filter]
        exact ⟨fun z => ⟨List.mem_of_mem_take z.1, z.2⟩, fun z => ⟨h1, z.2⟩⟩
      rw [e, freshGo_snoc, ih (by omega), List.filter_append, hc, ← h _ (List.getElem_mem _)]
      cases q : p st.row[i] with
      | true => simp [q]
      | false => simp [q]
  have := go st.row.length (Nat.le_refl _)
  rw [List.take_length] at this
  exact this
theorem freshGo_filter {st : NbS} (nd : st.row.Nodup) : ∀ i, i ≤ st.row.length → freshGo st (st.row.take i) = (st.row.take i).filter fun n => decide (n ∈ freshL st) := by
  have mono : ∀ i j, i ≤ j → j ≤ st.row.length → ∀ m ∈ freshGo st (st.row.take i), m ∈ freshGo st (st.row.take j) := by
    intro i j h
    induction h with
    | refl => exact fun _ m hm => hm
    | step h ih =>
      rename_i j
      intro hj m hm
      have hq : st.row[j]? = some st.row[j] := List.getElem?_eq_getElem hj
      have e : st.row.take (j + 1) = st.row.take j ++ [st.row[j]] := by rw [List.take_add_one, hq]; rfl
      have := ih (by omega) m hm
      rw [e, freshGo_snoc]
      split
      · exact List.mem_append_left _ this
      · exact this
  have back : ∀ i j, i ≤ j → j ≤ st.row.length → ∀ m ∈ st.row.take i, m ∈ freshGo st (st.row.take j) → m ∈ freshGo st (st.row.take i) := by
    intro i j h
    induction h with
    | refl => exact fun _ m _ hm => hm
    | step h ih =>
      rename_i j
      intro hj m hi hm
      have hq : st.row[j]? = some st.row[j] := List.getElem?_eq_getElem hj
      have e : st.row.take (j + 1) = st.row.take j ++ [st.row[j]] := by rw [List.take_add_one, hq]; rfl
      rw [e, freshGo_snoc] at hm
      refine ih (by omega) m hi ?_
      split at hm
      · rcases List.mem_append.mp hm with z | z
        · exact z
        · exfalso
          have ez := List.mem_singleton.mp z
          obtain ⟨l, hl⟩ := List.mem_iff_getElem?.mp hi
          have hl2 : l < i := by
            have := (List.getElem?_eq_some_iff.mp hl).1
            rw [List.length_take] at this
            omega
          rw [List.getElem?_take_of_lt hl2] at hl
          have h1 := take_idx nd hl
          rw [ez] at h1
          have h2 := take_idx nd hq
          have h3 : i ≤ j := h
          omega
      · exact hm
  intro i
  induction i with
  | zero => intro _; rfl
  | succ i ih =>
    intro hi
    have hq : st.row[i]? = some st.row[i] := List.getElem?_eq_getElem hi
    have e : st.row.take (i + 1) = st.row.take i ++ [st.row[i]] := by rw [List.take_add_one, hq]; rfl
    have key : (!(st.cell st.row[i]).struck && holdsB st st.row[i] (freshGo st (st.row.take i))) = decide (st.row[i] ∈ freshL st) := by
      rw [Bool.eq_iff_iff, decide_eq_true_eq]
      have full : freshL st = freshGo st (st.row.take st.row.length) := by rw [List.take_length]; rfl
      constructor
      · intro hc
        rw [full]
        refine mono (i + 1) _ hi (Nat.le_refl _) _ ?_
        rw [e, freshGo_snoc, if_pos hc]
        simp
      · intro hm
        rw [full] at hm
        have hm2 := back (i + 1) _ hi (Nat.le_refl _) _ (by rw [e]; exact List.mem_append_right _ (List.mem_singleton.mpr rfl)) hm
        rw [e, freshGo_snoc] at hm2
        split at hm2
        · assumption
        · exfalso
          have h1 := (freshGo_sub st (st.row.take i) _ hm2).1
          obtain ⟨l, hl⟩ := List.mem_iff_getElem?.mp h1
          have hl2 : l < i := by
            have := (List.getElem?_eq_some_iff.mp hl).1
            rw [List.length_take] at this
            omega
          rw [List.getElem?_take_of_lt hl2] at hl
          have h1 := take_idx nd hl
          have h2 := take_idx nd hq
          omega
    rw [e, freshGo_snoc, key, ih (by omega), List.filter_append]
    by_cases hm : st.row[i] ∈ freshL st
    · simp [hm]
    · simp [hm]
theorem fresh_order {st : NbS} (nd : st.row.Nodup) : freshL st = st.row.filter fun n => decide (n ∈ freshL st) := by
  have := freshGo_filter nd st.row.length (Nat.le_refl _)
  rw [List.take_length] at this
  exact this
/-- who is fresh holds by those that are, and the other way round -/
theorem fresh_iff {st : NbS} (nd : st.row.Nodup) (n : Nat) : n ∈ freshL st ↔ n ∈ st.row ∧ (st.cell n).struck = false ∧ holdsB st n (freshL st) = true := by
  have main : ∀ i (hi : i < st.row.length), st.row[i] ∈ freshL st ↔ ((st.cell st.row[i]).struck = false ∧ holdsB st st.row[i] (freshL st) = true) := by
    intro i hi
    have hq : st.row[i]? = some st.row[i] := List.getElem?_eq_getElem hi
    have e : st.row.take (i + 1) = st.row.take i ++ [st.row[i]] := by rw [List.take_add_one, hq]; rfl
    have h1 := freshGo_filter nd (i + 1) hi
    have hc : holdsB st st.row[i] (freshGo st (st.row.take i)) = holdsB st st.row[i] (freshL st) := holds_congr fun x m hm => by
      have h1 := setter_ahead nd hq hm
      rw [freshGo_filter nd i (by omega), List.mem_filter]
      simp [h1]
    rw [e, freshGo_snoc, List.filter_append, hc, ← freshGo_filter nd i (by omega)] at h1
    by_cases hm : st.row[i] ∈ freshL st
    · refine ⟨fun _ => ?_, fun _ => hm⟩
      split at h1
      · rename_i h
        rw [Bool.and_eq_true, Bool.not_eq_true'] at h
        exact h
      · exfalso
        simp [hm] at h1
    · refine ⟨fun z => absurd z hm, fun ⟨z1, z2⟩ => ?_⟩
      exfalso
      rw [if_pos (by rw [z1, z2]; rfl)] at h1
      simp [hm] at h1
  constructor
  · intro h
    have hr := (freshGo_sub st st.row n h).1
    obtain ⟨i, hi, e⟩ := List.mem_iff_getElem.mp hr
    subst e
    exact ⟨hr, (main i hi).mp h⟩
  · rintro ⟨hr, h⟩
    obtain ⟨i, hi, e⟩ := List.mem_iff_getElem.mp hr
    subst e
    exact (main i hi).mpr h
/-- a conditional expression -/
theorem ae_ite {V : Nv} {Γ : List Sl} {S : List Ob} {m : Bool} {t : TT} {ta tb : TE} {b : Bool} {d e : PyData} (h : AT V t Γ S b) (h1 : b = true → AE V m ta Γ S d) (h2 : b = false → AE V m tb Γ S e) : AE V m (tIf t ta tb) Γ S (if b = true then d else e) := ae_if h (fun hb => by rw [if_pos hb]; exact h1 hb) fun hb => by
  rw [if_neg (by rw [hb]; exact fun z => nomatch z)]
  exact h2 hb
end LC

namespace LC
open PySem PySem.Spec PyProof.Rows L2 Evl LamX NdefX
/-! ### shapes -/
def ShN (n : Nat) (d : PyData) : Prop := d.canLay0 = true ∧ d.depth ≤ n
theorem ShN.shaped {n : Nat} {d : PyData} (h : ShN n d) (hn : n ≤ 64) : SeqAt.shaped d = true := by
  unfold SeqAt.shaped
  rw [h.1, Bool.true_and]
  exact decide_eq_true (Nat.le_trans h.2 hn)
theorem sh_int {n : Nat} (i : Int) : ShN n (.int i) := ⟨rfl, Nat.zero_le _⟩
theorem sh_bool {n : Nat} (b : Bool) : ShN n (.bool b) := ⟨rfl, Nat.zero_le _⟩
theorem sh_none {n : Nat} : ShN n .none := ⟨rfl, Nat.zero_le _⟩
theorem sh_str {n : Nat} {s : Str} (h : PyData.strOk s = true) : ShN n (.str s) := ⟨h, Nat.zero_le _⟩
theorem sh_all {n : Nat} : ∀ {ds : List PyData}, (∀ d ∈ ds, ShN n d) → PyData.canLayAll0 ds = true ∧ PyData.depthAll ds ≤ n
  | [], _ => ⟨rfl, Nat.zero_le _⟩
  | d :: ds, h => by
    have h1 := h d (List.mem_cons_self ..)
    have h2 := sh_all fun e he => h e (List.mem_cons_of_mem _ he)
    refine ⟨?_, ?_⟩
    · unfold PyData.canLayAll0
      rw [h1.1, h2.1]
      rfl
    · unfold PyData.depthAll
      exact Nat.max_le.mpr ⟨h1.2, h2.2⟩
theorem sh_lst {n : Nat} {ds : List PyData} (h : ∀ d ∈ ds, ShN n d) : ShN (n + 1) (.list ds) := by
  have := sh_all h
  exact ⟨by unfold PyData.canLay0; exact this.1, by unfold PyData.depth; omega⟩
theorem sh_tup {n : Nat} {ds : List PyData} (h : ∀ d ∈ ds, ShN n d) : ShN (n + 1) (.tuple ds) := by
  have := sh_all h
  exact ⟨by unfold PyData.canLay0; exact this.1, by unfold PyData.depth; omega⟩
theorem sh_map {α : Type} {n : Nat} {xs : List α} {f : α → PyData} (h : ∀ a ∈ xs, ShN n (f a)) : ∀ d ∈ xs.map f, ShN n d := fun d hd => by
  obtain ⟨a, ha, rfl⟩ := List.mem_map.mp hd
  exact h a ha
theorem sh_of {d : PyData} (h : SeqAt.shaped d = true) : ShN 64 d := ⟨SeqAt.canLay_of_shaped h, SeqAt.depth_of_shaped h⟩
theorem ShN.up {n m : Nat} {d : PyData} (h : ShN n d) (hn : n ≤ m) : ShN m d := ⟨h.1, Nat.le_trans h.2 hn⟩
theorem eqv_slf {d : PyData} (h : SeqAt.shaped d = true) : PyData.eqv d d = true := SeqAt.eqv_refl _ (SeqAt.canLay_of_shaped h)
theorem eqv_of {d e : PyData} (h : SeqAt.shaped d = true) (q : d = e) : PyData.eqv d e = true := q ▸ eqv_slf h
/-! ### lists of one's own, by what makes them -/
def AF (V : Nv) (te : TE) (Γ : List Sl) (S : List Ob) (ds : List PyData) : Prop := ∀ σ B H, Ctx V Γ S σ B H → EvF V.K te σ B H ds
section
variable {V : Nv} {Γ Γ' : List Sl} {S S1 S2 S' : List Ob} {σ : L2.St} {B B' H H' : Hp} {m : Bool} {te ta tb tl tx : TE} {t u : TT} {targs tr : TA} {d e z : PyData} {ds es : List PyData} {D : Ends} {tu tw : TS} {g : TG} {i j k : Nat} {b : Bool} {r : R2} {vs : List Nat}
theorem af_lst (h : AEs V false targs Γ S ds) (hl : ds.length ≤ 100000) : AF V (tLst targs) Γ S ds := fun σ B H c => evf_lst (h σ B H c) hl
theorem af_add (ha : AE V false ta Γ S (.list ds)) (hb : AE V false tb Γ S (.list es)) (hl : ds.length + es.length ≤ 100000) : AF V (tOp (rAddU V.K) ta tb) Γ S (ds ++ es) := fun σ B H c H1 e1 Q q =>
  ha σ B H c H1 e1 _ fun x H2 A g hx => hb σ B H c H2 (e1.trans g.ex) _ fun y H3 C g2 hy => by
    have gj := g.join g2
    obtain ⟨a, xs, rfl, hs, h1⟩ := dp_lst (dp_ex (join_l (A := A) (B := C)) _ _ hx)
    obtain ⟨b, ys, rfl, ht, h2⟩ := dp_lst (dp_ex (join_r (g.d2.trans g2.ex) g2.d2) _ _ hy)
    exact .inr (.inr (.inl ⟨a, b, xs, ys, rfl, rfl, gj.d2 _ _ hs, gj.d2 _ _ ht, by rw [dpAll_len h1, dpAll_len h2]; exact sz_of hl, fun p hp => q p _ _ _ (fresh_back gj.ex hp) (gj.more (Ex.new hp)) (fresh_back gj.d2 hp) upd_same (dpAll_app h1 h2)⟩))
theorem a_setF (h : AF V te Γ S ds) (k : ∀ p, V.H0 p = none → AN V D.nx (Γ.set i (.at p)) (S ++ [lstO V.K p ds])) : AN V (tAsg te (gName i) D) Γ S := fun σ B H c => by
  refine s_asgF (h σ B H c) fun p xs H1 Hd hp gr hd h1 hx => ?_
  have c1 := c.gr gr
  obtain ⟨Mf, cs0⟩ := c.cs
  have cs := cs0.gr gr
  have h0 : V.H0 p = none := by
    cases q : V.H0 p with
    | none => rfl
    | some o => exact absurd hp (cs0.sy p (by rw [q]; exact fun z => nomatch z))
  -- the list was made after all that is known
  have np : ∀ j, ¬ Mf j p := fun j m => (cs0.pl m).2.ne hp
  have c2 : Cst V (S ++ [lstO V.K p ds]) (fun j => if j = S.length then fun a => a = p else Mf j) Hd H1 := by
    refine ⟨cs.x, cs.bk, fun j P hj => ?_, fun i j a h1 h2 => ?_, fun j a h => ?_, fun j a h => ?_, cs.t, cs.fr, cs.xd, cs.nw, cs.sy⟩
    · by_cases z : j = S.length
      · subst z
        rw [List.getElem?_append_right (Nat.le_refl _), Nat.sub_self] at hj
        cases hj
        rw [if_pos rfl]
        exact ⟨fun a => Iff.rfl, hd, xs, h1, hx⟩
      · rw [if_neg z]
        by_cases lt : j < S.length
        · rw [List.getElem?_append_left lt] at hj
          exact cs.ob j P hj
        · rw [List.getElem?_append_right (by omega)] at hj
          have : j - S.length ≠ 0 := by omega
          cases q : j - S.length with
          | zero => exact absurd q this
          | succ n => rw [q] at hj; cases hj
    · by_cases e1 : i = S.length <;> by_cases e2 : j = S.length
      · rw [e1, e2]
      · rw [if_pos e1] at h1
        rw [if_neg e2] at h2
        have h1 : a = p := h1
        exact (np j (h1 ▸ h2)).elim
      · rw [if_pos e2] at h2
        rw [if_neg e1] at h1
        have h2 : a = p := h2
        exact (np i (h2 ▸ h1)).elim
      · rw [if_neg e1] at h1
        rw [if_neg e2] at h2
        exact cs.dj i j a h1 h2
    · rw [List.length_append]
      by_cases z : j = S.length
      · rw [z]; exact Nat.lt_succ_self _
      · rw [if_neg z] at h
        exact Nat.lt_of_lt_of_le (cs.nz j a h) (Nat.le_add_right _ _)
    · by_cases z : j = S.length
      · rw [if_pos z] at h
        have h : a = p := h
        right
        rw [h]
        exact h0
      · rw [if_neg z] at h
        exact cs.mm j a h
  exact k p h0 _ Hd H1 ((c.to gr.xd c2).set (show SlOk V.K Hd (.at p) (some (.ref p)) from rfl))
/-- an item of a list of one's own -/
theorem ae_ownIx {p : Addr} {n : Int} (hi : Γ[i]? = some (.at p)) (hk : S[k]? = some (lstO V.K p ds)) (hn : AE V true te Γ S (.int n)) (hd : atI ds n = some d) : AE V m (tOp (rIx V.K) (tVar i) te) Γ S d := fun σ B H c H1 e Q q => by
  obtain ⟨Mf, cs⟩ := c.cs
  obtain ⟨m1, m2, xs, m3, m4⟩ := cs.ob k _ hk
  obtain ⟨v, hv, hdv⟩ := atI_dp m4 hd
  exact AV.at (V := V) (S := S) hi σ B H c H1 e _ fun H2 e2 => evB_int (hn σ B H c) H2 (e.trans e2) _ fun H3 e3 => .inl ⟨p, xs, n, v, rfl, rfl, sq_of (((e.trans e2).trans e3) _ _ m3), hv, q v H3 _ (Gr.base (c.sx.trans e) (e2.trans e3)) (sel_dp c.x hdv)⟩
theorem ae_neg {n : Int} (h : AE V true te Γ S (.int n)) : AE V m (tUn (rU fun i => .int (-i)) te) Γ S (.int (-n)) := fun σ B H c => evb_i c.sx (ev_un (evB_int (h σ B H c)) ru_neg)
/-! ### range(lo, hi) -/
theorem a_forR2 {lo hi : Int} {n : Nat} (h : AEs V true targs Γ S [.int lo, .int hi]) (hn : (hi - lo).toNat = n) (hb : -1000000 ≤ lo ∧ lo < 1000000 ∧ -1000000 ≤ hi ∧ hi < 1000000) (I : Nat → List Sl → List Ob → Prop) (h0 : I 0 Γ S)
    (hs : ∀ (i : Nat) Γ' S', i < n → I i Γ' S' → AN V (tu { D with nx := IN V (I (i + 1)), ct := IN V (I (i + 1)), bk := D.nx }) (Γ'.set j (.dat (.int (lo + (i : Int))))) S') (hd : ∀ Γ' S', I n Γ' S' → AN V D.nx Γ' S') : AN V (tFor (iRng2 targs) (gName j) tu D) Γ S := fun σ B H c =>
  h σ B H c H (Ex.refl H) _ fun ws H1 A gr hw => by
    obtain ⟨x, y, rfl, h1, h2⟩ := dts2 hw
    rw [dp_int h1, dp_int h2]
    refine ⟨lo, hi, rfl, by omega, ?_⟩
    rw [hn]
    exact for_range (lo := lo) (n := n) (fun i => IN V (I i)) ⟨Γ, S, B, c.ex gr.ex, h0⟩ (fun i σ' H' hi ⟨Γ', S', B', c', hI⟩ => hs i Γ' S' hi hI _ B' H' (c'.dat (.int _))) fun σ' H' ⟨Γ', S', B', c', hI⟩ => hd Γ' S' hI σ' B' H' c'
theorem ae_lcR2 {lo hi : Int} {n : Nat} {tt : TT} (f : Nat → Bool) (g : Nat → PyData) (h : AEs V false targs Γ S [.int lo, .int hi]) (hn : (hi - lo).toNat = n) (hb : -1000000 ≤ lo ∧ lo < 1000000 ∧ -1000000 ≤ hi ∧ hi < 1000000) (hz : n ≤ 40000) (hj : j ∈ vs)
    (ht : ∀ i, i < n → AT V tt ((wipeS Γ vs).set j (.dat (.int (lo + (i : Int))))) S (f i)) (he : ∀ i, i < n → f i = true → AE V false te ((wipeS Γ vs).set j (.dat (.int (lo + (i : Int))))) S (g i)) :
    AE V false (tLc (iRng2 targs) (gName j) tt te vs) Γ S (.list (((List.range n).filter f).map g)) := fun σ B H c H1 e Q q => h σ B H c H1 e _ fun ws H2 A gr hd => by
  obtain ⟨x, y, rfl, h1, h2⟩ := dts2 hd
  rw [dp_int h1, dp_int h2]
  refine ⟨lo, hi, rfl, by omega, fun L hL => ?_⟩
  rw [hn]
  have c2 := c.gr (gr.after e)
  refine lc_range (lo := lo) (n := n) (fun i H' => Acc V.K A H2 L (((List.range i).filter f).map g) H') (Acc.nil gr.d2 hL) (fun i H' hi p => ?_) fun H' p => ?_
  · have hl : (((List.range i).filter f).map g).length ≤ i := by
      rw [List.length_map]
      refine Nat.le_trans (List.length_filter_le _ _) ?_
      rw [List.length_range]
      exact Nat.le_refl _
    have c3 := (c2.wipe vs).dat (i := j) (d := .int (lo + (i : Int))) (.int _)
    refine ⟨wipe_set hj, ?_⟩
    rw [filter_range_snoc]
    exact lc_turnE gr.d2 hL p (by omega) (ht i hi _ A H2 c3) (fun hf => he i hi hf _ A H2 c3)
  · obtain ⟨Hd, g1, g2⟩ := p.done gr.xd gr.fr gr.ex hL
    exact q _ H' Hd g1 g2
end
/-! ### the law's own sums, where nothing is asked -/
def step0 : Unit → Str → Option Int × Unit := fun s _ => (none, s)
def J0 : JT Unit := fun _ M B H => Ex B H ∧ ∀ a, ¬ M a
theorem asks0 {K : Frag} {mk : NF → Prop} {fr : List Str} {sp : List V → Sp} {fa : Addr} : LAsks K mk fr sp fa Unit J0 step0 [] where
  x := fun j => j.1
  m := fun j a z => (j.2 a z).elim
  gr := fun j g => ⟨g.d2, j.2⟩
  out := fun j hb _ _ o => ⟨ex_upd j.1 hb, j.2⟩
  add := fun {s M B H p o} j hb _ hp _ => ⟨fun a u h => by
    by_cases z : a = p
    · rw [z, upd_same] at h
      cases h
      rw [z]
      exact hp
    · rw [upd_ne z] at h
      exact j.1 _ _ h, j.2⟩
  call := fun j hx => (nomatch hx)
  rng := fun h => by cases h
theorem ae_lw0 {V : Nv} {Γ : List Sl} {S : List Ob} {te tx : TE} {E : XK} {mk : NF → Prop} {fr : List Str} {sp : List L2.V → Sp} {n : Nat} {q : Sm} {x : Int} {y : Str} (h : AE V false te Γ S q.enc) (hx : AE V false tx Γ S (.int x)) (hr : InR x) (hN : ∀ z ∈ q.names, z = y) (hg : q.good = true) (hd : q.depth < n) :
    AE V false (tCall (spLW V.K mk fr sp n) [] E (tCons te (tCons (tDisp [(tC (.str y), tx)]) (tCons (tC .non) tNil)))) Γ S (outW (worthM step0 [(y, x)] q ()).1) := fun σ B H c H1 e Q k =>
  h σ B H c H1 e _ fun v H2 B2 g2 d2 p hp => by
    have x2 : Ex H1 (upd H2 p (.dK [])) := g2.ex.trans (Ex.new hp)
    refine evB_int (hx σ B H c) _ (e.trans x2) _ fun H3 e3 => ⟨e3 _ _ upd_same, [(.inr y, .int x)], rfl, by show 1 ≤ 15; decide, ?_⟩
    have b2 : B2 p = none := fresh_back g2.d2 hp
    have n1 : H1 p = none := fresh_back g2.ex hp
    have eB : Ex B2 (upd H3 p (.dK (mergeK [] [((Sum.inr y : Key), L2.V.int x)]))) := ex_upd ((g2.d2.trans (Ex.new hp)).trans e3) b2
    have e1 : Ex H1 (upd H3 p (.dK (mergeK [] [((Sum.inr y : Key), L2.V.int x)]))) := ex_upd (x2.trans e3) n1
    refine ⟨Unit, J0, step0, 0, p, v, .non, q, [(y, x)], M00, B2, (), [], rfl, asks0, fun z hz => .inl ?_, ⟨eB, fun a z => z⟩, ⟨upd_same, b2, fun z => z⟩, fun z i hz => ?_, d2, hg, hd, fun u H' B' M' f jj du => k u H' B' ⟨fun a o ha => f.fr a o (e1 a o ha) fun z => z, g2.xd.trans f.xd, f.d2, fun a ha hb => f.nw a (g2.fr a ha hb) (ne_none e1 hb)⟩ du⟩
    · rw [hN z hz]
      simp [List.lookup]
    · by_cases hz2 : z = y
      · subst hz2
        simp [List.lookup] at hz
        rw [← hz]
        exact hr
      · have : (z == y) = false := by simpa using hz2
        simp [List.lookup, this] at hz
end LC

namespace LC
open PySem PySem.Spec PyProof.Rows L2 Evl LamX NdefX
/-! ### some of the objects handed to a def -/
inductive Pick (S : List Ob) : List Nat → List Ob → Prop
  | nil : Pick S [] []
  | cons {k : Nat} {ks : List Nat} {O : Ob} {Os : List Ob} : S[k]? = some O → k ∉ ks → Pick S ks Os → Pick S (k :: ks) (O :: Os)
def setAll (S : List Ob) : List Nat → List Ob → List Ob
  | k :: ks, O :: Os => setAll (S.set k O) ks Os
  | _, _ => S
section
variable {S S' Os : List Ob} {ks : List Nat}
theorem Pick.len (p : Pick S ks Os) : ks.length = Os.length := by
  induction p with
  | nil => rfl
  | cons _ _ _ ih => exact congrArg (· + 1) ih
theorem Pick.nd (p : Pick S ks Os) : ks.Nodup := by
  induction p with
  | nil => exact List.nodup_nil
  | cons _ h _ ih => exact List.nodup_cons.mpr ⟨h, ih⟩
theorem Pick.at (p : Pick S ks Os) : ∀ {i : Nat} {O : Ob}, Os[i]? = some O → ∃ k, ks[i]? = some k ∧ S[k]? = some O := by
  induction p with
  | nil => intro i O h; cases h
  | cons h1 h2 p ih =>
    rename_i k ks O Os
    intro i O' h
    cases i with
    | zero => cases h; exact ⟨k, rfl, h1⟩
    | succ i => exact ih (i := i) h
theorem Pick.lt (p : Pick S ks Os) : ∀ k ∈ ks, k < S.length := by
  induction p with
  | nil => intro k h; cases h
  | cons h1 h2 p ih =>
    intro k h
    rcases List.mem_cons.mp h with rfl | h
    · exact (List.getElem?_eq_some_iff.mp h1).1
    · exact ih k h
theorem setAll_len : ∀ (ks : List Nat) (S Os : List Ob), (setAll S ks Os).length = S.length
  | [], S, Os => by unfold setAll; rfl
  | k :: ks, S, [] => by unfold setAll; rfl
  | k :: ks, S, O :: Os => by
    unfold setAll
    rw [setAll_len ks, List.length_set]
theorem setAll_at : ∀ (ks : List Nat) (S Os : List Ob), ks.Nodup → (∀ k ∈ ks, k < S.length) → ks.length = Os.length → ∀ (j : Nat) (O : Ob), (setAll S ks Os)[j]? = some O → (∃ i : Nat, ks[i]? = some j ∧ Os[i]? = some O) ∨ (j ∉ ks ∧ S[j]? = some O)
  | [], S, Os, _, _, _, j, O, h => .inr ⟨fun z => (nomatch z), by unfold setAll at h; exact h⟩
  | k :: ks, S, [], _, _, hl, j, O, h => by cases hl
  | k :: ks, S, P :: Os, nd, hlt, hl, j, O, h => by
    unfold setAll at h
    obtain ⟨nk, nd⟩ := List.nodup_cons.mp nd
    have kl := hlt k (List.mem_cons_self ..)
    rcases setAll_at ks (S.set k P) Os nd (fun k hk => by rw [List.length_set]; exact hlt k (List.mem_cons_of_mem _ hk)) (Nat.succ.inj hl) j O h with ⟨i, h1, h2⟩ | ⟨h1, h2⟩
    · exact .inl ⟨i + 1, h1, h2⟩
    · by_cases e : k = j
      · subst e
        rw [List.getElem?_set_self kl] at h2
        exact .inl ⟨0, rfl, h2⟩
      · rw [List.getElem?_set_ne e] at h2
        exact .inr ⟨fun z => (List.mem_cons.mp z).elim (fun q => e q.symm) h1, h2⟩
end
/-- where a def's call stands -/
def Nv.sub (V : Nv) (Mf : Nat → Addr → Prop) (ks : List Nat) (B H : Hp) : Nv := ⟨V.K, V.TT, fun a => ∃ k ∈ ks, Mf k a, B, H, B⟩
def subM (Mf : Nat → Addr → Prop) (ks : List Nat) (i : Nat) (a : Addr) : Prop := ∃ k, ks[i]? = some k ∧ Mf k a
section
variable {V : Nv} {Γ Γ' : List Sl} {S S' Os : List Ob} {σ : L2.St} {B B' H H' : Hp} {Mf Mf' : Nat → Addr → Prop} {ks : List Nat}
theorem Cst.enter (c : Cst V S Mf B H) (p : Pick S ks Os) : Cst (V.sub Mf ks B H) Os (subM Mf ks) B H := by
  refine ⟨c.x, Ex.refl _, fun i O hi => ?_, fun i j a h1 h2 => ?_, fun i a h => ?_, fun i a h => ?_, c.t, fun a o e _ => e, Ex.refl _, fun a h _ => h, fun a h => h⟩
  · obtain ⟨k, h1, h2⟩ := p.at hi
    have e : subM Mf ks i = Mf k := funext fun a => propext ⟨fun ⟨k', q1, q2⟩ => by rw [h1] at q1; cases q1; exact q2, fun q => ⟨k, h1, q⟩⟩
    rw [e]
    exact c.ob k O h2
  · obtain ⟨k1, q1, m1⟩ := h1
    obtain ⟨k2, q2, m2⟩ := h2
    have e := c.dj k1 k2 a m1 m2
    subst e
    have hi := (List.getElem?_eq_some_iff.mp q1).1
    exact (List.getElem?_inj hi p.nd).mp (by rw [q1, q2])
  · obtain ⟨k, q, _⟩ := h
    rw [← p.len]
    exact (List.getElem?_eq_some_iff.mp q).1
  · obtain ⟨k, q, m⟩ := h
    exact .inl (.inl ⟨k, List.mem_of_getElem? q, m⟩)
theorem Cst.leave (c : Cst V S Mf B H) (p : Pick S ks Os) (c' : Cst (V.sub Mf ks B H) S' Mf' B' H') (hl : S'.length = ks.length) : Cst V (setAll S ks S') (fun k a => (∃ i, ks[i]? = some k ∧ Mf' i a) ∨ (k ∉ ks ∧ Mf k a)) B' H' := by
  have tabs : ∀ {j a}, Mf j a → ¬ Tb V.TT a := fun {j a} m ⟨q, hq, e⟩ => by
    obtain ⟨ps, a1, _, _⟩ := c.t.tb q hq
    rw [e] at a1
    exact (c.pl m).2.tbl a1
  have go : ∀ j, j ∉ ks → ∀ a, Mf j a → ¬ Mt V.TT (fun a => ∃ k ∈ ks, Mf k a) a := fun j hj a m z => by
    rcases z with ⟨k, hk, z⟩ | z
    · exact hj (by rw [c.dj j k a m z]; exact hk)
    · exact tabs m z
  have mm' : ∀ i a, Mf' i a → (∃ k ∈ ks, Mf k a) ∨ Tb V.TT a ∨ H a = none := fun i a m => by
    rcases c'.mm i a m with (z | z) | z
    · exact .inl z
    · exact .inr (.inl z)
    · exact .inr (.inr z)
  have ab : ∀ i j a, Mf' i a → j ∉ ks → Mf j a → False := fun i j a m1 hj m2 => by
    rcases mm' i a m1 with ⟨k, hk, z⟩ | z | z
    · exact hj (by rw [c.dj j k a m2 z]; exact hk)
    · exact tabs m2 z
    · exact (c.pl m2).2.ne z
  have inj : ∀ {i j k : Nat}, ks[i]? = some k → ks[j]? = some k → i = j := fun {i j k} q1 q2 => (List.getElem?_inj (List.getElem?_eq_some_iff.mp q1).1 p.nd).mp (by rw [q1, q2])
  refine ⟨c'.x, c.bk.trans c'.bk, fun j O hj => ?_, fun i j a h1 h2 => ?_, fun j a h => ?_, fun j a h => ?_, c'.t, fun a o e n => c'.fr a o (c.fr a o e n) fun z => ?_, c.xd.trans c'.xd, fun a h1 h2 => c'.nw a (c.nw a h1 h2) (c.sy a h2), fun a h => c'.sy a (c.sy a h)⟩
  · rcases setAll_at ks S S' p.nd p.lt hl.symm j O hj with ⟨i, h1, h2⟩ | ⟨h1, h2⟩
    · have e : (fun a => (∃ i, ks[i]? = some j ∧ Mf' i a) ∨ (j ∉ ks ∧ Mf j a)) = Mf' i := funext fun a => propext ⟨fun z => by
        rcases z with ⟨i', q1, q2⟩ | ⟨q1, _⟩
        · rw [inj h1 q1]; exact q2
        · exact absurd (List.mem_of_getElem? h1) q1, fun z => .inl ⟨i, h1, z⟩⟩
      rw [e]
      exact c'.ob i O h2
    · have e : (fun a => (∃ i, ks[i]? = some j ∧ Mf' i a) ∨ (j ∉ ks ∧ Mf j a)) = Mf j := funext fun a => propext ⟨fun z => by
        rcases z with ⟨i', q1, q2⟩ | ⟨_, q2⟩
        · exact absurd (List.mem_of_getElem? q1) h1
        · exact q2, fun z => .inr ⟨h1, z⟩⟩
      rw [e]
      exact O.st (c.ob j O h2) (fun a o m q => c'.fr a o q (go j h1 a m)) c'.bk c'.x fun a m => c'.nw a (c.pl m).1 (c.pl m).2.ne
  · rcases h1 with ⟨i1, q1, m1⟩ | ⟨n1, m1⟩ <;> rcases h2 with ⟨i2, q2, m2⟩ | ⟨n2, m2⟩
    · have := c'.dj i1 i2 a m1 m2
      subst this
      rw [q1] at q2
      exact Option.some.inj q2
    · exact (ab i1 j a m1 n2 m2).elim
    · exact (ab i2 i a m2 n1 m1).elim
    · exact c.dj i j a m1 m2
  · rw [setAll_len]
    rcases h with ⟨i, q, m⟩ | ⟨_, m⟩
    · exact p.lt j (List.mem_of_getElem? q)
    · exact c.nz j a m
  · rcases h with ⟨i, q, m⟩ | ⟨_, m⟩
    · rcases mm' i a m with ⟨k, hk, z⟩ | z | z
      · exact c.mm k a z
      · exact .inl (.inr z)
      · right
        cases q : V.H0 a with
        | none => rfl
        | some o => exact absurd z (c.sy a (by rw [q]; exact fun z => nomatch z))
    · exact c.mm j a m
  · rcases z with ⟨k, hk, z⟩ | z
    · rcases c.mm k a z with w | w
      · exact n w
      · rw [w] at e; cases e
    · exact n (.inr z)
/-- what a def had of its own is forgotten -/
theorem Cst.take (c : Cst V (S ++ S') Mf B H) : Cst V S (fun k a => k < S.length ∧ Mf k a) B H := by
  refine ⟨c.x, c.bk, fun k O hk => ?_, fun j k a h1 h2 => c.dj j k a h1.2 h2.2, fun k a h => h.1, fun k a h => c.mm k a h.2, c.t, c.fr, c.xd, c.nw, c.sy⟩
  have lt := (List.getElem?_eq_some_iff.mp hk).1
  have e : (fun a => k < S.length ∧ Mf k a) = Mf k := funext fun a => propext ⟨fun z => z.2, fun z => ⟨lt, z⟩⟩
  rw [e]
  exact c.ob k O (by rw [List.getElem?_append_left lt]; exact hk)
end
/-! ### promises over slots and objects -/
inductive SlA (K : Frag) (B : Hp) : List Sl → List L2.V → Prop
  | nil : SlA K B [] []
  | cons {s : Sl} {v : L2.V} {Γ : List Sl} {vs : List L2.V} : SlOk K B s (some v) → SlA K B Γ vs → SlA K B (s :: Γ) (v :: vs)
theorem SlA.len {K : Frag} {B : Hp} {Γ : List Sl} {vs : List L2.V} (h : SlA K B Γ vs) : Γ.length = vs.length := by
  induction h with
  | nil => rfl
  | cons _ _ ih => exact congrArg (· + 1) ih
theorem SlA.mono {K : Frag} {B B' : Hp} {Γ : List Sl} {vs : List L2.V} (h : SlA K B Γ vs) (e : Ex B B') : SlA K B' Γ vs := by
  induction h with
  | nil => exact .nil
  | cons h _ ih => exact .cons (h.mono e) ih
theorem SlA.at {K : Frag} {B : Hp} {Γ : List Sl} {vs : List L2.V} (h : SlA K B Γ vs) : ∀ {i : Nat} {s : Sl}, Γ[i]? = some s → ∃ o, (vs.map some)[i]? = some o ∧ SlOk K B s o := by
  induction h with
  | nil => intro i s h; cases h
  | cons h _ ih =>
    intro i s hi
    cases i with
    | zero => cases hi; exact ⟨_, rfl, h⟩
    | succ i => exact ih (i := i) hi
abbrev RA := List Sl → List Ob → (PyData ⊕ Addr) → List Ob → Prop
def spA (K : Frag) (TT : List NTab) (R : RA) : Sp := fun vs H Q E => ∃ (M0 : Addr → Prop) (B0 H0 Bk B : Hp) (Mf : Nat → Addr → Prop) (Γ : List Sl) (S S' : List Ob) (o : PyData ⊕ Addr), Cst ⟨K, TT, M0, B0, H0, Bk⟩ S Mf B H ∧ SlA K B Γ vs ∧ R Γ S o S' ∧
  (∀ d, o = .inl d → ∀ v B' H' Mf', Cst ⟨K, TT, M0, B0, H0, Bk⟩ S' Mf' B' H' → Dt K B' v d → Q v H') ∧ (∀ c, o = .inr c → ∀ B' H' Mf', Cst ⟨K, TT, M0, B0, H0, Bk⟩ S' Mf' B' H' → E (.ref c) none H')
def AAs (V : Nv) (ta : TA) (Γ : List Sl) (S : List Ob) (Γc : List Sl) (S' : List Ob) : Prop := ∀ σ B H, Ctx V Γ S σ B H → ∀ Q : List L2.V → Hp → Prop, (∀ vs B' H', Ctx V Γ S' σ B' H' → Ex B B' → SlA V.K B' Γc vs → Q vs H') → ta σ H Q
section
variable {V : Nv} {Γ Γc : List Sl} {S S1 S2 S' Os : List Ob} {te : TE} {targs tr : TA} {d : PyData} {a : Addr} {ks : List Nat} {R : RA} {E : XK} {ES : L2.St → XK}
theorem aa_nil : AAs V tNil Γ S [] S := fun σ B H c Q k => k [] B H c (Ex.refl B) .nil
theorem aa_dat (h : AM V te Γ S d S1) (hr : AAs V tr Γ S1 Γc S2) : AAs V (tCons te tr) Γ S (.dat d :: Γc) S2 := fun σ B H c Q k =>
  h σ B H c _ fun v B1 H1 c1 e1 hv => hr σ B1 H1 c1 _ fun vs B2 H2 c2 e2 hvs => k (v :: vs) B2 H2 c2 (e1.trans e2) (.cons ⟨v, rfl, dp_ex e2 _ _ hv⟩ hvs)
theorem aa_at (h : AV V te Γ S (.ref a)) (hr : AAs V tr Γ S Γc S2) : AAs V (tCons te tr) Γ S (.at a :: Γc) S2 := fun σ B H c Q k =>
  h σ B H c H (Ex.refl H) _ fun H1 e1 => hr σ B H1 (c.ex e1) _ fun vs B2 H2 c2 e2 hvs => k (.ref a :: vs) B2 H2 c2 e2 (.cons rfl hvs)
theorem t_callA {σ : L2.St} {B H : Hp} {Q : VK} {E : XK} {o : PyData ⊕ Addr} (c : Ctx V Γ S σ B H) (ha : AAs V targs Γ S Γc S1) (p : Pick S1 ks Os) (hR : R Γc Os o S') (hl : S'.length = ks.length)
    (k1 : ∀ d, o = .inl d → ∀ v B' H', Ctx V Γ (setAll S1 ks S') σ B' H' → Ex B B' → Dt V.K B' v d → Q v H') (k2 : ∀ c, o = .inr c → ∀ B' H', Ctx V Γ (setAll S1 ks S') σ B' H' → Ex B B' → E (.ref c) none H') : targs σ H fun vs H1 => spA V.K V.TT R vs H1 Q E :=
  ha σ B H c _ fun vs B1 H1 c1 e1 hvs => by
    obtain ⟨Mf, cs⟩ := c1.cs
    refine ⟨_, _, _, _, _, _, Γc, Os, S', o, cs.enter p, hvs, hR, fun d e v B' H' Mf' cs' hv => ?_, fun cl e B' H' Mf' cs' => ?_⟩
    · exact k1 d e v B' H' (c1.to cs'.bk (cs.leave p cs' hl)) (e1.trans cs'.bk) hv
    · exact k2 cl e B' H' (c1.to cs'.bk (cs.leave p cs' hl)) (e1.trans cs'.bk)
theorem am_callA (ha : AAs V targs Γ S Γc S1) (p : Pick S1 ks Os) (hR : R Γc Os (.inl d) S') (hl : S'.length = ks.length) : AM V (tCall (spA V.K V.TT R) [] E targs) Γ S d (setAll S1 ks S') := fun σ B H c Q k => by
  have := t_callA (E := E) c ha p hR hl (fun d' e v B' H' c' e' hv => by cases e; exact k v B' H' c' e' hv) (fun c e => by cases e)
  show targs σ H fun vs H1 => spA V.K V.TT R (vs ++ []) H1 Q E
  simp only [List.append_nil]
  exact this
theorem am_callAS (ha : AAs V targs Γ S Γc S1) (p : Pick S1 ks Os) (hR : R Γc Os (.inl d) S') (hl : S'.length = ks.length) : AM V (tCallS (spA V.K V.TT R) ES targs) Γ S d (setAll S1 ks S') := fun σ B H c Q k =>
  t_callA (E := ES σ) c ha p hR hl (fun d' e v B' H' c' e' hv => by cases e; exact k v B' H' c' e' hv) (fun c e => by cases e)
/-- the start of such a def -/
theorem a_start {K : Frag} {TT : List NTab} {M0 : Addr → Prop} {B0 H0 Bk B H : Hp} {Mf : Nat → Addr → Prop} {vs : List L2.V} {N : List Str} {nx : L2.St → Hp → Prop} {n : Nat} (c : Cst ⟨K, TT, M0, B0, H0, Bk⟩ S Mf B H) (hs : SlA K B Γ vs) (hn : N.length - Γ.length = n) (k : AN ⟨K, TT, M0, B0, H0, Bk⟩ nx (Γ ++ List.replicate n .any) S) : nx (L2.start N vs) H := by
  refine k _ B H ⟨fun i s hi => ?_, Mf, c⟩
  unfold L2.start
  rw [← hs.len, hn]
  by_cases lt : i < Γ.length
  · rw [List.getElem?_append_left lt] at hi
    obtain ⟨o, h1, h2⟩ := hs.at hi
    exact ⟨o, by rw [List.getElem?_append_left (by rw [List.length_map, ← hs.len]; exact lt)]; exact h1, h2⟩
  · rw [List.getElem?_append_right (by omega)] at hi
    have h1 := List.getElem?_replicate (a := Sl.any) (n := n) (i := i - Γ.length)
    rw [hi] at h1
    split at h1
    · rename_i hlt
      cases h1
      refine ⟨none, ?_, trivial⟩
      rw [List.getElem?_append_right (by rw [List.length_map, ← hs.len]; omega), List.length_map, ← hs.len, List.getElem?_replicate, if_pos hlt]
    · cases h1
/-- what is answered -/
theorem a_retA {D : Ends} (h : AM V te Γ S d (S' ++ S2)) (k : ∀ v B H Mf, Cst V S' Mf B H → Dt V.K B v d → D.rt v H) : AN V (tRet te D) Γ S := a_ret h fun v B H Mf cs hv => k v B H _ cs.take hv
theorem a_retA0 {D : Ends} (h : AM V te Γ S d S') (k : ∀ v B H Mf, Cst V S' Mf B H → Dt V.K B v d → D.rt v H) : AN V (tRet te D) Γ S := a_ret h k
end
section
variable {P : Program} {w : World} {K : Frag} {mg : Str → Option Value} {base : Heap} {x q : Str} {st : Stmt} {f : Addr} {fd : FuncData} {N ps : List Str} {k : Nat} {CX : CXT} {TT : List NTab} {R : RA}
theorem spA_len (hl : ∀ Γ S o S', R Γ S o S' → Γ.length = ps.length) : ∀ vs H Q E, spA K TT R vs H Q E → vs.length = ps.length := fun vs H Q E ⟨_, _, _, _, _, _, Γ, S, S', o, _, hs, hr, _⟩ => by
  rw [← hs.len]
  exact hl _ _ _ _ hr
end
end LC

namespace LC
open PySem PySem.Spec PyProof.Rows L2 Evl LamX NdefX
/-! ### a dict of names with numbers, or None -/
abbrev Kn := List (Str × Option Int)
def encK (m : Kn) : List (Key × V) := m.map fun q => ((Sum.inr q.1 : Key), encOV q.2)
def lookK (m : Kn) (x : Str) : Option Int := (m.lookup x).getD none
def putQ (m : Kn) (x : Str) (v : Option Int) : Kn := if (m.any fun q => decide (q.1 = x)) = true then m.map (fun q => if q.1 = x then (q.1, v) else q) else m ++ [(x, v)]
theorem encK_put (m : Kn) (x : Str) (v : Option Int) : putK (encK m) (.inr x) (encOV v) = encK (putQ m x v) := by
  have e : ((encK m).any fun kv => decide (kv.1 = Sum.inr x)) = m.any fun q => decide (q.1 = x) := by
    unfold encK
    rw [List.any_map]
    congr 1
    funext q
    simp [Function.comp]
  unfold putK putQ
  rw [e]
  split
  · unfold encK
    rw [List.map_map, List.map_map]
    refine List.map_congr_left fun q _ => ?_
    by_cases h : q.1 = x
    · simp [Function.comp, h]
    · simp [Function.comp, h]
  · unfold encK
    rw [List.map_append] <;> rfl
theorem encK_val : ∀ (m : Kn) (x : Str), valV (encK m) (.inr x) = (m.lookup x).map encOV
  | [], x => rfl
  | (y, j) :: r, x => by
    have ih := encK_val r x
    by_cases h : y = x
    · subst h
      show valV ((Sum.inr y, encOV j) :: encK r) (.inr y) = _
      rw [valV_pos rfl]
      simp [List.lookup]
    · show valV ((Sum.inr y, encOV j) :: encK r) (.inr x) = _
      rw [valV_neg (fun z => h (Sum.inr.inj z)), ih]
      have : (x == y) = false := by simpa using fun z => h z.symm
      simp [List.lookup, this]
theorem encK_get (m : Kn) (x : Str) : (valV (encK m) (.inr x)).getD .non = encOV (lookK m x) := by
  rw [encK_val]
  unfold lookK
  cases m.lookup x with
  | none => rfl
  | some v => rfl
theorem putQ_look (m : Kn) (x y : Str) (v : Option Int) : (putQ m x v).lookup y = if y = x then some v else m.lookup y := by
  have inj : ∀ a b : Option Int, encOV a = encOV b → a = b := by
    intro a b h
    cases a <;> cases b <;> first | rfl | (cases h; rfl) | cases h
  have h := encK_val (putQ m x v) y
  rw [← encK_put, valV_put] at h
  by_cases e : y = x
  · subst e
    rw [if_pos rfl] at h ⊢
    cases q : (putQ m y v).lookup y with
    | none => rw [q] at h; cases h
    | some u =>
      rw [q] at h
      have h := Option.some.inj h
      rw [inj _ _ h]
  · rw [if_neg e]
    rw [if_neg (fun z => e (Sum.inr.inj z)), encK_val] at h
    cases q : (putQ m x v).lookup y with
    | none =>
      cases q2 : m.lookup y with
      | none => rfl
      | some u => rw [q, q2] at h; cases h
    | some u =>
      cases q2 : m.lookup y with
      | none => rw [q, q2] at h; cases h
      | some u2 =>
        rw [q, q2] at h
        have h := Option.some.inj h
        rw [inj _ _ h]
theorem lookK_put (m : Kn) (x y : Str) (v : Option Int) : lookK (putQ m x v) y = if y = x then v else lookK m y := by
  unfold lookK
  rw [putQ_look]
  split <;> rfl
theorem putQ_len (m : Kn) (x : Str) (v : Option Int) : (putQ m x v).length ≤ m.length + 1 := by
  unfold putQ
  split
  · rw [List.length_map]; omega
  · rw [List.length_append]; exact Nat.le_refl _
/-- such a dict, of one's own -/
def kO (p : Addr) (m : Kn) : Ob where
  ok M B H := (∀ a, M a ↔ a = p) ∧ B p = none ∧ H p = some (.dK (encK m))
  bm h a ha := by
    obtain ⟨h1, h2, h3⟩ := h
    rw [(h1 a).mp ha]
    exact ⟨h2, .inr (.inl ⟨_, h3⟩)⟩
  st h go xb x mb := by
    obtain ⟨h1, h2, h3⟩ := h
    exact ⟨h1, mb p ((h1 p).mpr rfl), go p _ ((h1 p).mpr rfl) h3⟩
section
variable {V : Nv} {Γ Γ' : List Sl} {S S1 S2 S' : List Ob} {σ : L2.St} {B B' H H' : Hp} {Mf : Nat → Addr → Prop} {m : Bool} {te ta tb tl tx ty tv : TE} {targs tr : TA} {d e z : PyData} {ds : List PyData} {D : Ends} {i j k : Nat} {p : Addr} {mm : Kn}
theorem a_dnew (h : ∀ p, V.H0 p = none → AN V D.nx (Γ.set i (.at p)) (S ++ [kO p []])) : AN V (tAsg tDNewK (gName i) D) Γ S := fun σ B H c => by
  refine s_dnew fun p hp => ?_
  obtain ⟨Mf, cs⟩ := c.cs
  have h0 : V.H0 p = none := by
    cases q : V.H0 p with
    | none => rfl
    | some o => exact absurd hp (cs.sy p (by rw [q]; exact fun z => nomatch z))
  have c' := c.to (Ex.refl B) (cs.newM (O := kO p []) (M := fun a => a = p) (H' := upd H p (.dK [])) (Ex.new hp) (fun a ha => by rw [ha]; exact hp) ⟨fun a => Iff.rfl, fresh_back cs.x hp, upd_same⟩)
  exact h p h0 _ B _ (c'.set (show SlOk V.K B (.at p) (some (.ref p)) from rfl))
theorem ae_kget {x : Str} (hi : Γ[i]? = some (.at p)) (hk : S[k]? = some (kO p mm)) (hx : AE V true ty Γ S (.str x)) : AE V m (tDGet2 (tVar i) ty (tC .non)) Γ S (encO (lookK mm x)) := fun σ B H c => by
  obtain ⟨Mf, cs⟩ := c.cs
  obtain ⟨h1, h2, h3⟩ := cs.ob k _ hk
  have := ev_get2 (k := .inr x) (AV.at hi σ B H c) h3 (evB_str (hx σ B H c)) ev_c (z := .non)
  rw [encK_get] at this
  exact evb_v c.sx this (dt_encO _)
theorem encO_v {K : Frag} {te : TE} {σ : L2.St} {B H : Hp} {o : Option Int} (h : EvB K te σ B H (encO o)) : Ev te σ H (encOV o) := fun H1 e Q q => h H1 e Q fun v H2 Hd g hd => by rw [encO_inv hd]; exact q H2 g.ex
theorem a_kput {x : Str} {v : Option Int} (hi : Γ[i]? = some (.at p)) (hk : S[k]? = some (kO p mm)) (hx : AE V true ty Γ S (.str x)) (hv : AE V true tv Γ S (encO v)) (hl : mm.length < 100000) (q : AN V D.nx Γ (S.set k (kO p (putQ mm x v)))) : AN V (sDPut (tVar i) ty tv D) Γ S := fun σ B H c => by
  obtain ⟨Mf, cs⟩ := c.cs
  obtain ⟨h1, h2, h3⟩ := cs.ob k _ hk
  refine s_dput (k := .inr x) (encO_v (hv σ B H c)) (AV.at hi σ B H c) (evB_str (hx σ B H c)) h3 (by unfold encK; rw [List.length_map]; exact hl) fun H1 e1 => ?_
  have c1 := c.ex e1
  obtain ⟨Mf1, cs1⟩ := c1.cs
  obtain ⟨g1, g2, g3⟩ := cs1.ob k _ hk
  rw [encK_put]
  exact q σ B _ (c1.to (Ex.refl B) (cs1.wr (O' := kO p (putQ mm x v)) (M := M00) hk ((g1 p).mpr rfl) ⟨g1, g2, upd_same⟩))
/-- a dict among the data -/
theorem ae_dk {x : Str} {ml : List (Str × Int)} (hi : Γ[i]? = some (.dk (encM ml))) (hx : AE V true ty Γ S (.str x)) : AE V m (tDGet2 (tVar i) ty (tC .non)) Γ S (encO (ml.lookup x)) := fun σ B H c => by
  obtain ⟨o, h1, p, rfl, h3⟩ := c.sl i _ hi
  have := ev_get2 (k := .inr x) (ev_var h1) (c.x _ _ h3) (evB_str (hx σ B H c)) ev_c (z := .non)
  rw [encM_val] at this
  refine evb_v c.sx this ?_
  cases ml.lookup x with
  | none => exact .non
  | some v => exact .int v
/-- a closure was made -/
theorem Cst.kp {Pt : Addr} {nm : Nat → Nat → Str} (c : Cst V S Mf B H) (hP : (Pt, nm) ∈ V.TT) (k : Kp Pt H H') (s : ∀ b, H' b = none → H b = none) (t : TabsN V.TT H') (tt : ToldTo V.TT H H') : Cst V S Mf B H' := by
  have bP : B Pt = none := (c.t.out _ hP).2
  have tp : Tb V.TT Pt := ⟨_, hP, rfl⟩
  have x' : Ex B H' := fun a o e => k a o (fun z => by rw [z, bP] at e; cases e) (c.x _ _ e)
  obtain ⟨ps, hps, _, _⟩ := c.t.tb _ hP
  have hps : H Pt = some (.tbl ps) := hps
  refine ⟨x', c.bk, fun j O hj => O.st (c.ob j O hj) (fun a o m e => k a o (fun z => ?_) e) (Ex.refl B) x' fun a m => (c.pl m).1, c.dj, c.nz, c.mm, ⟨t, fun p hp => ⟨fun z => z, (c.t.out p hp).2⟩, fun c0 hc => ⟨fun z => z, ?_⟩⟩, fun a o e n => k a o (fun z => n (.inr (by rw [z]; exact tp))) (c.fr a o e n), c.xd, c.nw, fun a e z => c.sy a e (s a z)⟩
  · rw [z] at m
    exact (c.pl m).2.tbl hps
  · rcases tt c0 hc with w | w
    · exact (c.t.kd c0 w).2
    · exact fresh_back c.x w
end
/-! ### who tells what is known -/
def knFr : List Str := ["known"]
/-- the law's: the number, or None -/
def spTel : List V → Sp := fun ws vs H Q _ => ∃ kd m x, ws = [.ref kd] ∧ vs = [.str x] ∧ H kd = some (.dK (encK m)) ∧ ∀ H', Ex H H' → Q (encOV (lookK m x)) H'
/-- the program's: the number, or it fails -/
def spAskK (K : Frag) (C : Addr) : List V → Sp := fun ws vs H Q E => ∃ kd m x B, ws = [.ref kd] ∧ vs = [.str x] ∧ nameS x = true ∧ H kd = some (.dK (encK m)) ∧ Ex B H ∧ (∀ v, lookK m x = some v → ∀ H', Ex H H' → Q (.int v) H') ∧ (lookK m x = none → FailE K C B H ("lacks", some x) E)
structure JK (mk : NF → Prop) (kd fa : Addr) (m : Kn) (s : Unit) (M : Addr → Prop) (B H : Hp) : Prop where
  x : Ex B H
  M : ∀ a, M a ↔ a = kd
  hk : H kd = some (.dK (encK m))
  bk : B kd = none
  clo : ∃ F, mk F ∧ CloAt H fa F knFr [.ref kd] ∧ ∀ a, (a = fa ∨ a = F.c ∨ NF.isC F a) → a ≠ kd ∧ B a = none
def stepK (m : Kn) (s : Unit) (x : Str) : Option Int × Unit := (lookK m x, s)
section
variable {K : Frag} {C : Addr} {mk : NF → Prop} {kd fa : Addr} {m : Kn} {s : Unit} {M : Addr → Prop} {B B' H H' : Hp} {p : Addr} {o : HO}
theorem JK.gr (j : JK mk kd fa m s M B H) (g : Gr B H H' B') : JK mk kd fa m s M B' H' := by
  obtain ⟨F, h1, h2, h3⟩ := j.clo
  exact ⟨g.d2, j.M, g.ex _ _ j.hk, g.fr _ j.bk (by rw [j.hk]; exact fun z => nomatch z), F, h1, h2.ex g.ex, fun a ha => ⟨(h3 a ha).1, g.fr a (h3 a ha).2 (h2.there ha)⟩⟩
theorem JK.out (j : JK mk kd fa m s M B H) (hb : B p = none) (hm : ¬ M p) (hp : (∃ k, H p = some (.dK k)) ∨ ∃ l, H p = some (.lst l)) (u : HO) : JK mk kd fa m s M B (upd H p u) := by
  obtain ⟨F, h1, h2, h3⟩ := j.clo
  have ne : kd ≠ p := fun z => hm ((j.M p).mpr z.symm)
  refine ⟨ex_upd j.x hb, j.M, by rw [upd_ne ne]; exact j.hk, j.bk, F, h1, h2.stay fun a v ha e => ?_, h3⟩
  rw [upd_ne fun z => ?_]
  · exact e
  · rw [z] at ha e
    rcases hp with ⟨k, hk⟩ | ⟨k, hk⟩
    · exact h2.nplain ha hk (.inl ⟨k, rfl⟩)
    · exact h2.nplain ha hk (.inr (.inl ⟨k, rfl⟩))
theorem JK.add (j : JK mk kd fa m s M B H) (hb : B p = none) (hm : ¬ M p) (hp : H p = some o) (ho : (∃ k, o = .dK k) ∨ (∃ l, o = .lst l) ∨ ∃ l, o = .tup l) : JK mk kd fa m s M (upd B p o) H := by
  obtain ⟨F, h1, h2, h3⟩ := j.clo
  have ne : kd ≠ p := fun z => hm ((j.M p).mpr z.symm)
  refine ⟨fun a u e => ?_, j.M, j.hk, by rw [upd_ne ne]; exact j.bk, F, h1, h2, fun a ha => ⟨(h3 a ha).1, ?_⟩⟩
  · by_cases z : a = p
    · rw [z, upd_same] at e
      cases e
      rw [z]
      exact hp
    · rw [upd_ne z] at e
      exact j.x _ _ e
  · rw [upd_ne fun z => ?_]
    · exact (h3 a ha).2
    · rw [z] at ha
      exact h2.nplain ha hp ho
theorem JK.call (j : JK mk kd fa m s M B H) : ∃ F, mk F ∧ CloAt H fa F knFr [.ref kd] ∧ hide (NF.isC F) H kd = some (.dK (encK m)) ∧ Ex B (hide (NF.isC F) H) ∧ ∀ H', (∀ c, NF.isC F c → H' c = none) → ∀ B', Gr B (hide (NF.isC F) H) H' B' → Fr M M B H (back (NF.isC F) H H') B' ∧ JK mk kd fa m s M B' (back (NF.isC F) H H') := by
  obtain ⟨F, h1, h2, h3⟩ := j.clo
  have nk : ¬ NF.isC F kd := fun z => (h3 kd (.inr (.inr z))).1 rfl
  have hk' : hide (NF.isC F) H kd = some (.dK (encK m)) := by rw [hide_out nk]; exact j.hk
  have xh : Ex B (hide (NF.isC F) H) := fun a o e => by
    rw [hide_out fun z => by rw [(h3 a (.inr (.inr z))).2] at e; cases e]
    exact j.x _ _ e
  refine ⟨F, h1, h2, hk', xh, fun H' hn B' g => ?_⟩
  have ex : Ex H (back (NF.isC F) H H') := fun a o e => by
    by_cases z : NF.isC F a
    · rw [back_in z]; exact e
    · rw [back_out z]
      exact g.ex a o (by rw [hide_out z]; exact e)
  have d2 : Ex B' (back (NF.isC F) H H') := g.d2.trans (ex_back hn)
  have fr : ∀ a, B a = none → H a ≠ none → B' a = none := fun a hb hh => by
    by_cases z : NF.isC F a
    · exact fresh_back g.d2 (hn a z)
    · exact g.fr a hb (by rw [hide_out z]; exact hh)
  have G : Gr B H (back (NF.isC F) H H') B' := ⟨ex, g.xd, d2, fr⟩
  exact ⟨Fr.of G, j.gr G⟩
end
theorem telSys {K : Frag} {mk : NF → Prop} {kd fa : Addr} {m : Kn} {Nm : List Str} (hr : ∀ x i, lookK m x = some i → InR i) : LAsks K mk knFr spTel fa Unit (JK mk kd fa m) (stepK m) Nm where
  x := fun j => j.x
  m := fun {s M B H} j a z => by
    rw [(j.M a).mp z]
    exact ⟨j.bk, by rw [j.hk]; exact fun z => nomatch z⟩
  gr := fun j g => j.gr g
  out := fun j hb hm hp o => j.out hb hm hp o
  add := fun j hb hm hp ho => j.add hb hm hp ho
  rng := fun {s x i s1} h => by
    injection h with h1 h2
    exact hr x i h1
  call := fun {s M B H x Q E} j hx hk => by
    obtain ⟨F, h1, h2, h3, xh, h4⟩ := j.call
    refine ⟨F, [.ref kd], h1, h2, kd, m, x, rfl, rfl, h3, fun H' e hn => ?_⟩
    obtain ⟨f, jj⟩ := h4 H' hn B (Gr.base xh e)
    exact hk _ B M f jj
theorem askKSys {K : Frag} {C : Addr} {mk : NF → Prop} {kd fa : Addr} {m : Kn} {Nm : List Str} (hr : ∀ x i, lookK m x = some i → InR i) (hN : ∀ x ∈ Nm, nameS x = true) : Asks K C mk knFr (spAskK K C) fa Unit (JK mk kd fa m) (stepK m) Nm where
  x := fun j => j.x
  m := fun {s M B H} j a z => by
    rw [(j.M a).mp z]
    exact ⟨j.bk, by rw [j.hk]; exact fun z => nomatch z⟩
  gr := fun j g => j.gr g
  out := fun j hb hm hp o => j.out hb hm hp o
  add := fun j hb hm hp ho => j.add hb hm hp ho
  rng := fun {s x i s1} h => by
    injection h with h1 h2
    exact hr x i h1
  call := fun {s M B H x Q E} j hx k1 k2 => by
    obtain ⟨F, h1, h2, h3, xh, h4⟩ := j.call
    have nk : ¬ NF.isC F kd := fun z => by rw [hide_in z] at h3; cases h3
    refine ⟨F, [.ref kd], h1, h2, kd, m, x, B, rfl, rfl, hN x hx, h3, xh, fun v hv H' e hn => ?_, fun hv d tv H' B' h0 g hb hd dt hn => ?_⟩
    · obtain ⟨f, jj⟩ := h4 H' hn B (Gr.base xh e)
      exact k1 v s (by unfold stepK; rw [hv]) _ B M f jj
    · obtain ⟨f, jj⟩ := h4 H' hn B' g
      have ncd : ¬ NF.isC F d := fun z => by rw [hn d z] at hd; cases hd
      have h0' : H d = none := by rw [hide_out ncd] at h0; exact h0
      have nkd : ¬ M d := fun z => by
        have := (j.M d).mp z
        rw [this, j.hk] at h0'
        cases h0'
      exact k2 s (by unfold stepK; rw [hv]) d tv _ B' M f jj h0' nkd hb (by rw [back_out ncd]; exact hd) dt
/-! what comes of a source, by what is known -/
theorem doneK_eq (m : Kn) (src : Src) : (doneM (stepK m) src [] [] ()).1 = (runA (lookK m) src).1 := by
  have := doneM_map (step := stepA (lookK m)) (step' := stepK m) (fun _ => ()) (fun s x => rfl) src [] [] []
  rw [this]
  rfl
end LC

namespace LC
open PySem PySem.Spec PyProof.Rows L2 Evl LamX NdefX
theorem set_same {α : Type} : ∀ {l : List α} {i : Nat} {a : α}, l[i]? = some a → l.set i a = l
  | [], _, _, h => by cases h
  | b :: l, 0, a, h => by cases h; rfl
  | b :: l, i + 1, a, h => by
    show b :: l.set i a = _
    rw [set_same (l := l) (i := i) h]
section
variable {V : Nv} {Γ Γ' : List Sl} {S S1 S2 S' : List Ob} {σ : L2.St} {B B' H H' : Hp} {Mf : Nat → Addr → Prop} {m : Kn} {te : TE} {D : Ends} {iv i1 i2 i3 k : Nat} {kd : Addr} {src : Src} {Pt : Addr} {nm : Nat → Nat → Str} {mk : NF → Prop} {E E' : XK} {C : Addr}
/-- a closure over the dict, made -/
theorem jk_made {fa : Addr} {Fn : NF} {H2 : Hp} (cs : Cst V S Mf B H) (hk : S[k]? = some (kO kd m)) (hP : (Pt, nm) ∈ V.TT) (hmk : mk Fn) (kp : Kp Pt H H2) (ks : ∀ b, H2 b = none → H b = none) (kt : TabsN V.TT H2) (ktt : ToldTo V.TT H H2) (kto : Told V.TT H2 Fn.c) (hfa : H fa = none) (hcs : ∀ c, NF.isC Fn c → H c = none) (clo : CloAt H2 fa Fn knFr [.ref kd]) :
    Cst V S Mf B H2 ∧ JK mk kd fa m () (Mf k) B H2 := by
  have cs2 := cs.kp hP kp ks kt ktt
  obtain ⟨g1, g2, g3⟩ := cs2.ob k _ hk
  obtain ⟨_, _, g4⟩ := cs.ob k _ hk
  refine ⟨cs2, cs2.x, g1, g3, g2, Fn, hmk, clo, fun a ha => ?_⟩
  have nn : ∀ a, H a = none → a ≠ kd ∧ B a = none := fun a h => by
    refine ⟨fun z => ?_, fresh_back cs.x h⟩
    rw [z, g4] at h
    cases h
  rcases ha with ha | ha | ha
  · rw [ha]; exact nn fa hfa
  · rw [ha]
    refine ⟨fun z => ?_, (cs2.t.kd _ kto).2⟩
    have w := clo.code
    rw [z, g3] at w
    cases w
  · exact nn a (hcs a ha)
theorem jk_end {H2 H3 B3 : Hp} {M3 : Addr → Prop} {fa : Addr} (cs2 : Cst V S Mf B H2) (hk : S[k]? = some (kO kd m)) (f3 : Fr (Mf k) M3 B H2 H3 B3) (j3 : JK mk kd fa m () M3 B3 H3) : ∃ Mf', Cst V S Mf' B3 H3 := by
  have := cs2.step (O' := kO kd m) (M1 := M3) hk f3.tabs ((cs2.t.of fun a h => (cs2.pl h).2).fr f3) (fun a h => h) ⟨j3.M, j3.bk, j3.hk⟩
  rw [set_same hk] at this
  exact ⟨_, this⟩
theorem a_ldone (hv : AE V false te Γ S (encS src)) (hi : Γ[iv]? = some (.at kd)) (hk : S[k]? = some (kO kd m)) (hP : (Pt, nm) ∈ V.TT) (hg : goodS src = true) (hr : ∀ x i, lookK m x = some i → InR i)
    (q : AN V D.nx (((Γ.set i1 (.dat (.list ((runA (lookK m) src).1.shown.map PyData.int)))).set i2 (.dk (encM (runA (lookK m) src).1.mine))).set i3 (.dat (encWhy (runA (lookK m) src).1.why))) S) :
    AN V (tAsg (tCall (spLD V.K mk knFr spTel) [] E (tCons te (tCons (tCall (spMk V.TT Pt mk knFr) [] E' (tCons (tVar iv) tNil)) tNil))) (gTup V.K 3 (gCons (gName i1) (gCons (gName i2) (gCons (gName i3) gNil)))) D) Γ S := fun σ B H c => by
  refine hv σ B H c H (Ex.refl H) _ fun v H1 B1 g1 d1 => ?_
  have c1 := c.gr g1
  obtain ⟨Mf, cs⟩ := c1.cs
  obtain ⟨o, h1, h2⟩ := c1.sl iv _ hi
  have h2 : o = some (.ref kd) := h2
  subst h2
  refine ⟨.ref kd, h1, rfl, cs.t.tb, fun fa Fn H2 hmk kp ks kt ktt kto hfa hcs clo => ?_⟩
  obtain ⟨cs2, jk⟩ := jk_made cs hk hP hmk kp ks kt ktt kto hfa hcs clo
  refine ⟨Unit, JK mk kd fa m, stepK m, fa, v, src, Mf k, B1, (), srcNames src, rfl, telSys hr, fun r hr' x hx => List.mem_flatMap.mpr ⟨r, hr', hx⟩, jk, d1, hg, fun r s1 hd tp pf pm wv H3 B3 M3 f3 j3 t1 t2 t3 t4 n1 n2 n3 => ?_⟩
  have er : r = (runA (lookK m) src).1 := by rw [← doneK_eq, hd]
  subst er
  obtain ⟨Mf', cs3⟩ := jk_end cs2 hk f3 j3
  have c3 := c1.to f3.xd cs3
  refine ⟨tp, [.ref pf, .ref pm, wv], rfl, ex_t c3.x (st_of t1), rfl, .ref pf, _, rfl, .ref pm, _, rfl, wv, [], rfl, rfl, ?_⟩
  refine q _ B3 H3 (((c3.dat (.lst t2 ?_)).set (show SlOk V.K B3 (.dk _) (some (.ref pm)) from ⟨pm, rfl, t3⟩)).dat t4)
  have := dt_ints (K := V.K) (H := B3) (runA (lookK m) src).1.shown
  exact this
theorem a_done (hv : AE V false te Γ S (encS src)) (hi : Γ[iv]? = some (.at kd)) (hk : S[k]? = some (kO kd m)) (hP : (Pt, nm) ∈ V.TT) (hg : goodS src = true) (hr : ∀ x i, lookK m x = some i → InR i)
    (q : AN V D.nx (((Γ.set i1 (.dat (.list ((runA (lookK m) src).1.shown.map PyData.int)))).set i2 (.dk (encM (runA (lookK m) src).1.mine))).set i3 (.dat (encWhy (runA (lookK m) src).1.why))) S) :
    AN V (tAsg (tCall (spDone V.K C mk knFr (spAskK V.K C)) [] E (tCons te (tCons (tCall (spMk V.TT Pt mk knFr) [] E' (tCons (tVar iv) tNil)) tNil))) (gTup V.K 3 (gCons (gName i1) (gCons (gName i2) (gCons (gName i3) gNil)))) D) Γ S := fun σ B H c => by
  refine hv σ B H c H (Ex.refl H) _ fun v H1 B1 g1 d1 => ?_
  have c1 := c.gr g1
  obtain ⟨Mf, cs⟩ := c1.cs
  obtain ⟨o, h1, h2⟩ := c1.sl iv _ hi
  have h2 : o = some (.ref kd) := h2
  subst h2
  refine ⟨.ref kd, h1, rfl, cs.t.tb, fun fa Fn H2 hmk kp ks kt ktt kto hfa hcs clo => ?_⟩
  obtain ⟨cs2, jk⟩ := jk_made cs hk hP hmk kp ks kt ktt kto hfa hcs clo
  refine ⟨Unit, JK mk kd fa m, stepK m, fa, v, src, Mf k, B1, (), srcNames src, rfl, askKSys hr (srcNames_good hg), fun r hr' x hx => List.mem_flatMap.mpr ⟨r, hr', hx⟩, jk, d1, hg, fun r s1 hd tp pf pm wv H3 B3 M3 f3 j3 t1 t2 t3 t4 n1 n2 n3 => ?_⟩
  have er : r = (runA (lookK m) src).1 := by rw [← doneK_eq, hd]
  subst er
  obtain ⟨Mf', cs3⟩ := jk_end cs2 hk f3 j3
  have c3 := c1.to f3.xd cs3
  refine ⟨tp, [.ref pf, .ref pm, wv], rfl, ex_t c3.x (st_of t1), rfl, .ref pf, _, rfl, .ref pm, _, rfl, wv, [], rfl, rfl, ?_⟩
  refine q _ B3 H3 (((c3.dat (.lst t2 ?_)).set (show SlOk V.K B3 (.dk _) (some (.ref pm)) from ⟨pm, rfl, t3⟩)).dat t4)
  have := dt_ints (K := V.K) (H := B3) (runA (lookK m) src).1.shown
  exact this
end
/-! ### a notebook with its parts in sight -/
structure NbP where
  dn : Addr
  c : Addr
  r : Addr
  kvs : List (Key × V)
  ad : Nat → Addr
def nbX (K : Frag) (T : NbC) (nb : Addr) (st : NbS) (p : NbP) : Ob where
  ok M B H := NbL K T M B H nb st p.dn p.c p.r p.kvs p.ad ∧ ∀ a, M a → Pl3 (H a)
  bm h a ha := ⟨(h.1.m a ha).1, h.2 a ha⟩
  st h go xb x mb := by
    obtain ⟨L, pl⟩ := h
    have pl' := fun a m => (pl a m).stay fun o => go a o m
    exact ⟨⟨x, fun a m => ⟨mb a m, (pl' a m).ne⟩, go _ _ L.mn L.hn, go _ _ L.mc L.hc, go _ _ L.mr L.hr, L.mn, L.mc, L.mr, L.kin, L.kout, L.kl, L.mad, fun k hk => (L.cells k hk).mono xb fun o => go _ _ (L.mad k hk), L.inj⟩, pl'⟩
section
variable {V : Nv} {Γ Γ' : List Sl} {S S1 S2 S' : List Ob} {σ : L2.St} {B B' H H' : Hp} {Mf : Nat → Addr → Prop} {m : Bool} {te ta tb tl ty : TE} {D : Ends} {i j k : Nat} {nb : Addr} {st : NbS} {W : NbC} {nx : L2.St → Hp → Prop} {p : NbP} {tu : TS} {O O' : Ob}
theorem Cst.swap (c : Cst V S Mf B H) (hk : S[k]? = some O) (ho : O'.ok (Mf k) B H) : Cst V (S.set k O') Mf B H := by
  have kl := (List.getElem?_eq_some_iff.mp hk).1
  refine ⟨c.x, c.bk, fun j P hj => ?_, c.dj, fun j a h => by rw [List.length_set]; exact c.nz j a h, c.mm, c.t, c.fr, c.xd, c.nw, c.sy⟩
  by_cases e : j = k
  · subst e
    rw [List.getElem?_set_self kl] at hj
    cases hj
    exact ho
  · rw [List.getElem?_set_ne (Ne.symm e)] at hj
    exact c.ob j P hj
theorem a_open (hk : S[k]? = some (nbO V.K W nb st)) (q : ∀ p, AN V nx Γ (S.set k (nbX V.K W nb st p))) : AN V nx Γ S := fun σ B H c => by
  obtain ⟨Mf, cs⟩ := c.cs
  obtain ⟨⟨dn, cc, r, kvs, ad, L⟩, pl⟩ := cs.ob k _ hk
  exact q ⟨dn, cc, r, kvs, ad⟩ σ B H (c.to (Ex.refl B) (cs.swap hk ⟨L, pl⟩))
theorem a_close (hk : S[k]? = some (nbX V.K W nb st p)) (q : AN V nx Γ (S.set k (nbO V.K W nb st))) : AN V nx Γ S := fun σ B H c => by
  obtain ⟨Mf, cs⟩ := c.cs
  obtain ⟨L, pl⟩ := cs.ob k _ hk
  exact q σ B H (c.to (Ex.refl B) (cs.swap hk ⟨⟨_, _, _, _, _, L⟩, pl⟩))
theorem Cst.close (c : Cst V S Mf B H) (hk : S[k]? = some (nbX V.K W nb st p)) : Cst V (S.set k (nbO V.K W nb st)) Mf B H := by
  obtain ⟨L, pl⟩ := c.ob k _ hk
  exact c.swap hk ⟨⟨_, _, _, _, _, L⟩, pl⟩
theorem av_cell {n : Nat} (U : NbT V.K W) (hi : Γ[i]? = some (.at nb)) (hk : S[k]? = some (nbX V.K W nb st p)) (hy : AE V true ty Γ S (.int (n : Int))) (hn : n ∈ st.row) : AV V (tDGet (tFld V.K (tVar i) "cells") ty) Γ S (.ref (p.ad n)) := fun σ B H c => by
  obtain ⟨Mf, cs⟩ := c.cs
  exact (cs.ob k _ hk).1.atE U (AV.at hi σ B H c) (evB_int (hy σ B H c)) hn
theorem a_setA {a : Addr} (h : AV V te Γ S (.ref a)) (q : AN V D.nx (Γ.set i (.at a)) S) : AN V (tAsg te (gName i) D) Γ S := fun σ B H c => h σ B H c H (Ex.refl H) _ fun H1 e1 => q _ B H1 ((c.ex e1).set (show SlOk V.K B (.at a) (some (.ref a)) from rfl))
theorem ae_struck {n : Nat} (U : NbT V.K W) (hk : S[k]? = some (nbX V.K W nb st p)) (hn : n ∈ st.row) (h : AV V te Γ S (.ref (p.ad n))) : AE V m (tFld V.K te "struck") Γ S (.bool (st.cell n).struck) := fun σ B H c => by
  obtain ⟨Mf, cs⟩ := c.cs
  exact evb_b c.sx ((cs.ob k _ hk).1.struckE U hn (h σ B H c))
theorem ae_lines {n : Nat} (U : NbT V.K W) (hk : S[k]? = some (nbX V.K W nb st p)) (hn : n ∈ st.row) (h : AV V te Γ S (.ref (p.ad n))) : AE V m (tFld V.K te "lines") Γ S (encS (st.cell n).src) := fun σ B H c => by
  obtain ⟨Mf, cs⟩ := c.cs
  obtain ⟨lv, h1, h2⟩ := (cs.ob k _ hk).1.linesE U hn (h σ B H c)
  exact evb_v c.sx h1 (sel_dp c.x h2)
/-- a for over the row, which stays -/
theorem a_forRow (U : NbT V.K W) (hi : Γ[i]? = some (.at nb)) (hk : S[k]? = some (nbX V.K W nb st p)) (I : Nat → List Sl → List Ob → Prop) (h0 : I 0 Γ S) (hI : ∀ l Γ' S', I l Γ' S' → S'[k]? = some (nbX V.K W nb st p))
    (hs : ∀ (l n : Nat) Γ' S', st.row[l]? = some n → I l Γ' S' → AN V (tu { D with nx := IN V (I (l + 1)), ct := IN V (I (l + 1)), bk := D.nx }) (Γ'.set j (.dat (.int (n : Int)))) S') (hd : ∀ Γ' S', I st.row.length Γ' S' → AN V D.nx Γ' S') :
    AN V (tFor (iSeq V.K (tFld V.K (tVar i) "row")) (gName j) tu D) Γ S := fun σ B H c => by
  obtain ⟨Mf, cs⟩ := c.cs
  have L := (cs.ob k _ hk).1
  refine s_forM (K := V.K) (L.rowE U (AV.at hi σ B H c)) L.hr (fun l => IN V (I l)) (fun H1 e1 => ⟨Γ, S, B, c.ex e1, h0⟩) (fun l σ' H' ⟨Γ', S', B', c', q⟩ => ?_) (fun l x σ' H' hl ⟨Γ', S', B', c', q⟩ => ?_) fun σ' H' ⟨Γ', S', B', c', q⟩ => hd Γ' S' (by rw [List.length_map] at q; exact q) σ' B' H' c'
  · obtain ⟨Mf', cs'⟩ := c'.cs
    exact (cs'.ob k _ (hI l Γ' S' q)).1.hr
  · rw [List.getElem?_map] at hl
    obtain ⟨n, hn, rfl⟩ := Option.map_eq_some_iff.mp hl
    exact hs l n Γ' S' hn q _ B' H' (c'.dat (.int _))
end
end LC

namespace LC
open PySem PySem.Spec PyProof.Rows L2 Evl LamX NdefX
section
variable {V : Nv} {Γ Γ' : List Sl} {S S1 S2 S' : List Ob} {m : Bool} {te : TE} {t : TT} {tu : TS} {D : Ends} {b : Bool}
theorem a_ifN (h : AT V t Γ S b) (h1 : b = true → AN V (tu D) Γ S) (h2 : b = false → AN V D.nx Γ S) : AN V (tIfS t tu tNext D) Γ S := a_if h h1 h2
def isSetR : Rw → Bool
  | .set _ _ => true
  | .shw _ => false
theorem ae_isSet {r : Rw} (h : AE V m te Γ S r.enc) : AE V m (tOp (rEqD V.K) (tOp (rIx V.K) te (tC (.int 0))) (tC (.str "set"))) Γ S (.bool (isSetR r)) := by
  have s1 : SeqAt.shaped (.str "set") = true := by decide +kernel
  have s2 : SeqAt.shaped (.str "show") = true := by decide +kernel
  cases r with
  | set x q => exact AE.is (ae_op (ae_op h ae_int (rvd_ixT (atI_0 _ _))) ae_str (rvd_eq s1 s1)) (show PyData.bool _ = .bool true by rw [show PyData.eqv (.str "set") (.str "set") = true by decide +kernel])
  | shw q => exact AE.is (ae_op (ae_op h ae_int (rvd_ixT (atI_0 _ _))) ae_str (rvd_eq s2 s1)) (show PyData.bool _ = .bool false by rw [show PyData.eqv (.str "show") (.str "set") = false by decide +kernel])
theorem ae_setName {x : Str} {q : Sm} (h : AE V m te Γ S (Rw.set x q).enc) : AE V m (tOp (rIx V.K) te (tC (.int 1))) Γ S (.str x) := ae_op h ae_int (rvd_ixT (atI_1 _ _ _))
end
/-! ### anew: what a run of all shows -/
def anewE (n : Nat) (r : DoneS) : PyData := .tuple [.int (n : Int), .list (r.shown.map PyData.int), encWhy r.why]
def anewD (st : NbS) : PyData := .list ((liveL st).map fun n => anewE n (pureRun st n).1)
def R_anew (K : Frag) (W : NbC) : RA := fun Γ S o S' => ∃ nb st, Γ = [.at nb] ∧ S = [nbO K W nb st] ∧ Sit st ∧ o = .inl (anewD st) ∧ S' = [nbO K W nb st]
theorem setsOf_take {src : Src} {i : Nat} {r : Rw} (h : src[i]? = some r) (y : Str) : y ∈ setsOf (src.take (i + 1)) ↔ (y ∈ setsOf (src.take i) ∨ ∃ q, r = .set y q) := by
  unfold setsOf
  rw [take_flat _ h, List.mem_append]
  cases r with
  | set x q =>
    have e : y ∈ Rw.sets (.set x q) ↔ y = x := by show y ∈ [x] ↔ _; exact List.mem_singleton
    rw [e]
    constructor
    · rintro (h | h)
      · exact .inl h
      · exact .inr ⟨q, by rw [h]⟩
    · rintro (h | ⟨q', h⟩)
      · exact .inl h
      · injection h with h1 h2
        exact .inr h1.symm
  | shw q =>
    have e : y ∈ Rw.sets (.shw q) ↔ False := by show y ∈ [] ↔ _; simp
    rw [e]
    simp
/-- the names that a cell sets are known as it set them -/
theorem known_step {st : NbS} {l : List Nat} {n : Nat} {m m' : Kn} (hs : (st.cell n).struck = false) (hm : lookK m = knownL st l) (h : ∀ y, lookK m' y = if y ∈ setsOf (st.cell n).src then (runA (lookK m) (st.cell n).src).1.mine.lookup y else lookK m y) : lookK m' = knownL st (l ++ [n]) := by
  funext y
  rw [h y, knownL_snoc, ← hm]
  unfold setsB
  rw [hs]
  by_cases q : y ∈ setsOf (st.cell n).src
  · rw [if_pos q, decide_eq_true q]
    rfl
  · rw [if_neg q, decide_eq_false q]
    rfl
theorem known_struck {st : NbS} {l : List Nat} {n : Nat} (hs : (st.cell n).struck = true) : knownL st (l ++ [n]) = knownL st l := by
  funext y
  rw [knownL_snoc]
  unfold setsB
  rw [hs]
  rfl
theorem pureRun_at {st : NbS} (nd : st.row.Nodup) {i n : Nat} (h : st.row[i]? = some n) : pureRun st n = runA (knownL st (st.row.take i)) (st.cell n).src := by
  unfold pureRun knownAt ahead
  rw [take_idx nd h]
end LC

namespace LC
open PySem PySem.Spec PyProof.Rows L2 Evl LamX NdefX
/-! ### plain: who is visited is fresh then -/
def Closed (st : NbS) (g : List Nat) : Prop := ∀ n ∈ g, ∀ q ∈ (pureRec st n).asked, ∀ p, setterF st n q.1 = some p → p ∈ g
section
variable {st : NbS}
theorem visName_has {k n p : Nat} {x : Str} {g : List Nat} (hk : 0 < k) (h : setterF st n x = some p) : p ∈ visName st k n x g := by
  unfold visName
  rw [h]
  exact visit_self st hk
theorem visName_pre {k n : Nat} {x : Str} {g : List Nat} {m : Nat} (h : m ∈ g) : m ∈ visName st k n x g := by
  unfold visName
  split
  · exact h
  · obtain ⟨l, e⟩ := visit_pre st k _ g
    rw [e]
    exact List.mem_append_left _ h
theorem standGo_has {vis : Str → List Nat → List Nat} {val : Str → Option Int} {st : NbS} {n : Nat} (hv : ∀ x g p, setterF st n x = some p → p ∈ vis x g) (hp : ∀ x g m, m ∈ g → m ∈ vis x g) : ∀ (as : Asked) (g : List Nat), (standGo vis val as g).1 = true → ∀ q ∈ as, ∀ p, setterF st n q.1 = some p → p ∈ (standGo vis val as g).2 := by
  have pre : ∀ (as : Asked) (g : List Nat) m, m ∈ g → m ∈ (standGo vis val as g).2 := by
    intro as
    induction as with
    | nil => exact fun g m h => h
    | cons q r ih =>
      intro g m h
      obtain ⟨x, v⟩ := q
      unfold standGo
      split
      · exact ih _ m (hp x g m h)
      · exact hp x g m h
  intro as
  induction as with
  | nil => intro g _ q hq; cases hq
  | cons q r ih =>
    intro g h q' hq' p hs
    obtain ⟨x, v⟩ := q
    unfold standGo at h ⊢
    split at h
    · rename_i e
      rw [if_pos e]
      rcases List.mem_cons.mp hq' with z | z
      · subst z
        exact pre r _ p (hv x g p hs)
      · exact ih _ h q' z p hs
    · cases h
theorem visit_closed (S : Sit st) : ∀ (k n : Nat) (g : List Nat), n ∈ st.row → st.row.idxOf n < k → Closed st g → Closed st (visit st k n g)
  | 0, n, g, _, hk, _ => absurd hk (Nat.not_lt_zero _)
  | k + 1, n, g, hn, hk, hg => by
    have nd := S.G.nd
    have hv : ∀ x g', Closed st g' → Closed st (visName st k n x g') := fun x g' h => by
      unfold visName
      split
      · exact h
      · rename_i p hp
        have := setter_mem nd hp
        exact visit_closed S k p g' this.1 (by omega) h
    have h0 : ∀ x p, setterF st n x = some p → 0 < k := fun x p hp => by
      have := setter_mem nd hp
      omega
    have hs : Closed st (standB st (visName st k n) n g).2 := by
      have go : ∀ (as : Asked) (g' : List Nat), Closed st g' → Closed st (standGo (visName st k n) (knownAt st n) as g').2 := by
        intro as
        induction as with
        | nil => exact fun g' h => h
        | cons q r ih =>
          intro g' h
          obtain ⟨x, v⟩ := q
          unfold standGo
          split
          · exact ih _ (hv x g' h)
          · exact hv x g' h
      unfold standB
      split
      · exact hg
      · split
        · exact go _ _ hg
        · exact hg
    rw [visit_succ]
    split
    · exact hg
    · split
      · rename_i hst
        have hst0 := hst
        rw [standB_val] at hst
        obtain ⟨r, hr⟩ : ∃ r, (st.cell n).recd = some r := by
          unfold standsB at hst
          cases q : (st.cell n).recd with
          | none => rw [q] at hst; cases hst
          | some r => exact ⟨r, rfl⟩
        have hp := stand_pure hr (S.V n hn r hr).1 hst
        intro m hm q hq p hsp
        rcases List.mem_append.mp hm with z | z
        · exact List.mem_append_left _ (hs m z q hq p hsp)
        · have e := List.mem_singleton.mp z
          subst e
          refine List.mem_append_left _ ?_
          rw [hp] at hq
          unfold standB at hst0 ⊢
          rw [hr] at hst0 ⊢
          dsimp only at hst0 ⊢
          split at hst0
          · rename_i e
            rw [if_pos e]
            exact standGo_has (fun x g p h => visName_has (h0 x p h) h) (fun x g m h => visName_pre h) _ _ hst0 q hq p hsp
          · cases hst0
      · have hd := doneM_inv (step := stepG (visName st k n) (knownAt st n)) (fun s => Closed st s.1 ∧ ∀ q ∈ s.2, ∀ p, setterF st n q.1 = some p → p ∈ s.1) (fun s x ⟨h1, h2⟩ => ⟨hv x s.1 h1, fun q hq p hp => by
          have hq : q ∈ noteA s.2 x (knownAt st n x) := hq
          unfold noteA at hq
          split at hq
          · exact visName_pre (h2 q hq p hp)
          · rcases List.mem_append.mp hq with z | z
            · exact visName_pre (h2 q z p hp)
            · have e := List.mem_singleton.mp z
              subst e
              exact visName_has (h0 x p hp) hp⟩) (st.cell n).src [] [] ((standB st (visName st k n) n g).2, []) ⟨hs, fun q hq => nomatch hq⟩
        intro m hm q hq p hsp
        rcases List.mem_append.mp hm with z | z
        · exact List.mem_append_left _ (hd.1 m z q hq p hsp)
        · have e := List.mem_singleton.mp z
          subst e
          refine List.mem_append_left _ (hd.2 q ?_ p hsp)
          have h2 := (done_pure (st := st) (k := k) (n := m) (g := (standB st (visName st k m) m g).2) (r := (doneM (stepG (visName st k m) (knownAt st m)) (st.cell m).src [] [] ((standB st (visName st k m) m g).2, [])).1) (s1 := (doneM (stepG (visName st k m) (knownAt st m)) (st.cell m).src [] [] ((standB st (visName st k m) m g).2, [])).2) rfl).2
          rw [← h2]
          exact hq
/-- cells that are visited are not struck -/
theorem visit_live (nd : st.row.Nodup) {k n : Nat} {g : List Nat} (hn : n ∈ st.row) (hs : (st.cell n).struck = false) (hg : ∀ m ∈ g, m ∈ st.row ∧ (st.cell m).struck = false) : ∀ m ∈ visit st k n g, m ∈ st.row ∧ (st.cell m).struck = false := by
  revert n g
  induction k with
  | zero => intro n g hn hs hg; exact hg
  | succ k ih =>
    intro n g hn hs hg
    have hv : ∀ x g', (∀ m ∈ g', m ∈ st.row ∧ (st.cell m).struck = false) → ∀ m ∈ visName st k n x g', m ∈ st.row ∧ (st.cell m).struck = false := fun x g' h => by
      unfold visName
      split
      · exact h
      · rename_i p hp
        have h3 := setter_mem nd hp
        have h4 := h3.2.2
        unfold setsB at h4
        rw [Bool.and_eq_true, Bool.not_eq_true'] at h4
        exact ih h3.1 h4.1 h
    have hs' : ∀ m ∈ (standB st (visName st k n) n g).2, m ∈ st.row ∧ (st.cell m).struck = false := by
      have go : ∀ (as : Asked) (g' : List Nat), (∀ m ∈ g', m ∈ st.row ∧ (st.cell m).struck = false) → ∀ m ∈ (standGo (visName st k n) (knownAt st n) as g').2, m ∈ st.row ∧ (st.cell m).struck = false := by
        intro as
        induction as with
        | nil => exact fun g' h => h
        | cons q r ih2 =>
          intro g' h
          obtain ⟨x, v⟩ := q
          unfold standGo
          split
          · exact ih2 _ (hv x g' h)
          · exact hv x g' h
      unfold standB
      split
      · exact hg
      · split
        · exact go _ _ hg
        · exact hg
    rw [visit_succ]
    split
    · exact hg
    · intro m hm
      rcases List.mem_append.mp hm with z | z
      · split at z
        · exact hs' m z
        · exact doneM_inv (step := stepG (visName st k n) (knownAt st n)) (fun s => ∀ m ∈ s.1, m ∈ st.row ∧ (st.cell m).struck = false) (fun s x h => hv x s.1 h) (st.cell n).src [] [] ((standB st (visName st k n) n g).2, []) hs' m z
      · rw [List.mem_singleton.mp z]
        exact ⟨hn, hs⟩
theorem visit_nd (nd : st.row.Nodup) {k n : Nat} {g : List Nat} (hn : n ∈ st.row) (hg : g.Nodup) : (visit st k n g).Nodup := by
  revert n g
  induction k with
  | zero => intro n g _ hg; exact hg
  | succ k ih =>
    intro n g hn hg
    have hv : ∀ x g', g'.Nodup → (visName st k n x g').Nodup := fun x g' h => by
      unfold visName
      split
      · exact h
      · rename_i p hp
        exact ih (setter_mem nd hp).1 h
    have hs : (standB st (visName st k n) n g).2.Nodup := by
      have go : ∀ (as : Asked) (g' : List Nat), g'.Nodup → (standGo (visName st k n) (knownAt st n) as g').2.Nodup := by
        intro as
        induction as with
        | nil => exact fun g' h => h
        | cons q r ih2 =>
          intro g' h
          obtain ⟨x, v⟩ := q
          unfold standGo
          split
          · exact ih2 _ (hv x g' h)
          · exact hv x g' h
      unfold standB
      split
      · exact hg
      · split
        · exact go _ _ hg
        · exact hg
    rw [visit_succ]
    split
    · exact hg
    · rename_i hng
      have hsub := stand_sub (k := k) nd hn hng
      have app : ∀ {l : List Nat}, l.Nodup → n ∉ l → (l ++ [n]).Nodup := fun {l} h1 h2 => by
        rw [List.nodup_append]
        exact ⟨h1, by simp, fun a ha b hb => by rw [List.mem_singleton.mp hb]; exact fun z => h2 (z ▸ ha)⟩
      split
      · exact app hs hsub.1
      · exact app (doneM_inv (step := stepG (visName st k n) (knownAt st n)) (fun s => s.1.Nodup) (fun s x h => hv x s.1 h) (st.cell n).src [] [] ((standB st (visName st k n) n g).2, []) hs) hsub.2
/-- with those of a closed list made fresh, they are fresh -/
theorem fresh_mix (S : Sit st) {g : List Nat} (hg : Closed st g) (hl : ∀ n ∈ g, n ∈ st.row ∧ (st.cell n).struck = false) : ∀ n ∈ g, n ∈ freshL (mix st g) := by
  have nd := S.G.nd
  have key : ∀ i n, st.row.idxOf n = i → n ∈ g → n ∈ freshL (mix st g) := by
    intro i
    induction i using Nat.strongRecOn with
    | ind i ih =>
      intro n hi hn
      refine (fresh_iff (st := mix st g) nd n).mpr ⟨(hl n hn).1, by rw [mix_struck]; exact (hl n hn).2, ?_⟩
      refine pure_holds (st := mix st g) nd (by rw [mix_rec_in hn, pureRec_mix]) fun q hq m hm => ?_
      rw [mix_setter] at hm
      rw [pureRec_mix] at hq
      have hm' := hg n hn q hq m hm
      have h3 := setter_mem nd hm
      exact ⟨ih _ (by omega) m rfl hm', by rw [mix_rec_in hm', pureRec_mix]⟩
  exact fun n hn => key _ n rfl hn
/-- who was fresh stays so -/
theorem fresh_keep (S : Sit st) {g : List Nat} : ∀ n ∈ freshL st, n ∈ freshL (mix st g) := by
  have nd := S.G.nd
  have key : ∀ i n, st.row.idxOf n = i → n ∈ freshL st → n ∈ freshL (mix st g) := by
    intro i
    induction i using Nat.strongRecOn with
    | ind i ih =>
      intro n hi hn
      obtain ⟨h1, h2, h3⟩ := fresh_pure S n hn
      have hr : ∀ m, m ∈ freshL st → ((mix st g).cell m).recd = some (pureRec (mix st g) m) := fun m hm => by
        rw [pureRec_mix]
        by_cases z : m ∈ g
        · exact mix_rec_in z
        · rw [mix_rec_out z]
          exact (fresh_pure S m hm).2.2
      refine (fresh_iff (st := mix st g) nd n).mpr ⟨h1, by rw [mix_struck]; exact h2, ?_⟩
      refine pure_holds (st := mix st g) nd (hr n hn) fun q hq m hm => ?_
      rw [mix_setter] at hm
      rw [pureRec_mix] at hq
      have hh := ((fresh_iff nd n).mp hn).2.2
      unfold holdsB at hh
      rw [h3] at hh
      dsimp only at hh
      rw [Bool.and_eq_true, List.all_eq_true] at hh
      have ha := hh.2 q hq
      unfold okAsk at ha
      rw [hm] at ha
      dsimp only at ha
      rw [Bool.and_eq_true, decide_eq_true_eq] at ha
      have h4 := setter_mem nd hm
      exact ⟨ih _ (by omega) m rfl ha.1, hr m ha.1⟩
  exact fun n hn => key _ n rfl hn
theorem idx30 (G : NbG st) {n : Nat} (hn : n ∈ st.row) : st.row.idxOf n < 31 := by
  have := List.idxOf_lt_length_iff.mpr hn
  have := G.len
  omega
/-- a cell run is fresh then -/
theorem fresh_run (S : Sit st) {n : Nat} (hn : n ∈ st.row) (hs : (st.cell n).struck = false) : n ∈ freshL (mix st (visit st 31 n [])) :=
  fresh_mix S (visit_closed S 31 n [] hn (idx30 S.G hn) fun m hm => nomatch hm) (visit_live S.G.nd hn hs fun m hm => nomatch hm) n (visit_self st (by decide))
/-- a cell run comes last -/
theorem visit_last (nd : st.row.Nodup) {k n : Nat} (hk : 0 < k) : ∃ l, visit st k n [] = l ++ [n] := by
  obtain ⟨k, rfl⟩ : ∃ j, k = j + 1 := ⟨k - 1, by omega⟩
  rw [visit_succ, if_neg (by simp)]
  exact ⟨_, rfl⟩
end
end LC

namespace LC
open PySem PySem.Spec PyProof.Rows L2 Evl LamX NdefX
/-! ### enumerate, zip, sorted of a dict -/
theorem kEnum {X : Cx} {K : Frag} {e : Expr} {ta : TA} {p pos tpos : Pos} {elts : List Expr} {kk : Nat} (h : X.K = K) (hg : Gl X "enumerate") (hm : X.mg "enumerate" = none) (ha : PA X [e] ta) (hs : starEach [e] X.env = [(false, eval e X.env)] := by rfl) :
    PI X (.Tuple elts kk tpos) (.Call (.Name "enumerate" p) [e] [] pos) (iEnum K ta) := h ▸ pi_enum hg hm ha hs
theorem kZip {X : Cx} {K : Frag} {e e2 : Expr} {ta : TA} {p pos tpos : Pos} {elts : List Expr} {kk : Nat} (h : X.K = K) (hg : Gl X "zip") (hm : X.mg "zip" = none) (ha : PA X [e, e2] ta)
    (hs : starEach [e, e2] X.env = (false, eval e X.env) :: starEach [e2] X.env := by rfl) (hpl : (backTo pos (starEach [e2] X.env)).any (·.1) = false := by rfl) : PI X (.Tuple elts kk tpos) (.Call (.Name "zip" p) [e, e2] [] pos) (iZip K ta) := h ▸ pi_zip hg hm ha hs hpl
def rSortDK : List V → Hp → VK → Prop := fun xs H Q => ∃ (a : Addr) (kvs : List (Key × V)) (ks : List Str), xs = [.ref a] ∧ Rd H a (.dK kvs) ∧ kvs.map (·.1) = ks.map Sum.inr ∧ ks.length < 64 ∧ ∀ ys p, ys.Perm ks → sortedS ys = true → H p = none → Q (.ref p) (upd H p (.lst (ys.map V.str)))
theorem kSortD {X : Cx} (hc : X.calm = true) : CallR X (.builtin "sorted") rSortDK := call_sortedD hc
section
variable {V : Nv} {Γ Γ' : List Sl} {S S1 S2 S' : List Ob} {m : Bool} {te tl tl2 : TE} {targs : TA} {d e z : PyData} {ds : List PyData} {D : Ends} {tu : TS} {g : TG} {i j k : Nat} {p : Addr} {mm : Kn}
theorem ae_sortK (hi : Γ[i]? = some (.at p)) (hk : S[k]? = some (kO p mm)) (nd : (mm.map (·.1)).Nodup) (hl : mm.length < 64) : AE V m (tCB rSortDK (tCons (tVar i) tNil)) Γ S (.list ((sortU (mm.map (·.1))).map PyData.str)) := fun σ B H c H1 e Q q => by
  obtain ⟨Mf, cs⟩ := c.cs
  obtain ⟨h1, h2, h3⟩ := cs.ob k _ hk
  refine AV.at (V := V) (S := S) hi σ B H c H1 e _ fun H2 e2 => ⟨p, encK mm, mm.map (·.1), rfl, .inl ((e.trans e2) _ _ h3), ?_, by rw [List.length_map]; exact hl, fun ys l hp hs hl' => ?_⟩
  · unfold encK
    rw [List.map_map, List.map_map]
    rfl
  · have ey := sortU_eq (xs := mm.map (·.1)) (hp.nodup_iff.mpr nd) (fun x => hp.mem_iff) hs
    rw [ey]
    exact q _ _ _ ((Gr.base (c.sx.trans e) e2).new _ hl') (.lst upd_same (dt_strs _))
/-- a for over enumerate(a list) -/
theorem a_forEnum {α : Type} {xs : List α} (f : α → PyData) (h : AM V tl Γ S (.list (xs.map f)) S1) (I : Nat → List Sl → List Ob → Prop) (h0 : I 0 Γ S1)
    (hs : ∀ Bk, Ex V.Bk Bk → ∀ (i : Nat) (a : α) Γ' S', xs[i]? = some a → I i Γ' S' → ∃ Γ2, AG { V with Bk := Bk } g Γ' S' (.tuple [.int (i : Int), f a]) Γ2 ∧ AN { V with Bk := Bk } (tu { D with nx := IN { V with Bk := Bk } (I (i + 1)), ct := IN { V with Bk := Bk } (I (i + 1)), bk := D.nx }) Γ2 S')
    (hd : ∀ Γ' S', I xs.length Γ' S' → AN V D.nx Γ' S') : AN V (tFor (iEnum V.K (tCons tl tNil)) g tu D) Γ S := fun σ B H c => by
  refine h σ B H c _ fun v B1 H1 c1 e1 hv => ?_
  obtain ⟨a, ys, rfl, hs1, hall⟩ := dp_lst hv
  have hl := dpAll_len hall
  rw [List.length_map] at hl
  refine ⟨a, ys, rfl, sq_of (c1.x _ _ hs1), for_it (walk_enum (xs := ys)) (fun i => IN { V with Bk := B1 } (I i)) ⟨Γ, S1, B1, c1.keep, h0⟩ (fun i σ' H' _ ⟨Γ', S', B', c', hI⟩ => sq_of (c'.x _ _ (c'.bk _ _ hs1))) (fun i x σ' H' H'' hi ⟨Γ', S', B', c', hI⟩ hy => ?_) fun σ' H' ⟨Γ', S', B', c', hI⟩ => hd Γ' S' (by rw [← hl]; exact hI) σ' B' H' (c'.less c1.bk)⟩
  obtain ⟨T, x1, y1, rfl, hT, rfl, ex, ey⟩ := hy
  cases ex
  obtain ⟨d, hdi, hx⟩ := dpAll_of hall ey
  rw [List.getElem?_map] at hdi
  obtain ⟨b, hb, rfl⟩ := Option.map_eq_some_iff.mp hdi
  obtain ⟨Γ2, g2, n2⟩ := hs B1 c1.bk i b Γ' S' hb hI
  have gr : Gr B' H' (upd H' T (.tup [.int (i : Int), y1])) (upd B' T (.tup [.int (i : Int), y1])) := (Gr.base c'.x (Ex.refl _)).new _ hT
  have c2 := c'.gr gr
  exact g2 σ' _ _ (.ref T) c2 (.tup (st_of upd_same) (.cons (.int _) (.cons (dp_ex (c'.bk.trans gr.xd) _ _ hx) .nil))) _ fun σ2 c3 => n2 σ2 _ _ c3
theorem a_forZip {α β : Type} {xs : List α} {ys : List β} (f : α → PyData) (f2 : β → PyData) (h : AMs V targs Γ S [.list (xs.map f), .list (ys.map f2)] S1) (hxy : xs.length = ys.length) (I : Nat → List Sl → List Ob → Prop) (h0 : I 0 Γ S1)
    (hs : ∀ Bk, Ex V.Bk Bk → ∀ (i : Nat) (a : α) (b : β) Γ' S', xs[i]? = some a → ys[i]? = some b → I i Γ' S' → ∃ Γ2, AG { V with Bk := Bk } g Γ' S' (.tuple [f a, f2 b]) Γ2 ∧ AN { V with Bk := Bk } (tu { D with nx := IN { V with Bk := Bk } (I (i + 1)), ct := IN { V with Bk := Bk } (I (i + 1)), bk := D.nx }) Γ2 S')
    (hd : ∀ Γ' S', I xs.length Γ' S' → AN V D.nx Γ' S') : AN V (tFor (iZip V.K targs) g tu D) Γ S := fun σ B H c => by
  refine h σ B H c _ fun vs B1 H1 c1 e1 hv => ?_
  obtain ⟨v1, v2, rfl, hv1, hv2⟩ := dts2 hv
  obtain ⟨a, us, rfl, hs1, hall⟩ := dp_lst hv1
  obtain ⟨b, ws, rfl, hs2, hall2⟩ := dp_lst hv2
  have hl := dpAll_len hall
  have hl2 := dpAll_len hall2
  rw [List.length_map] at hl hl2
  refine ⟨a, b, us, ws, rfl, sq_of (c1.x _ _ hs1), sq_of (c1.x _ _ hs2), for_it (walk_zip (n := xs.length) (xs := us) (ys := ws) (by omega)) (fun i => IN { V with Bk := B1 } (I i)) ⟨Γ, S1, B1, c1.keep, h0⟩ (fun i σ' H' _ ⟨Γ', S', B', c', hI⟩ => ⟨sq_of (c'.x _ _ (c'.bk _ _ hs1)), sq_of (c'.x _ _ (c'.bk _ _ hs2))⟩) (fun i x σ' H' H'' hi ⟨Γ', S', B', c', hI⟩ hy => ?_) fun σ' H' ⟨Γ', S', B', c', hI⟩ => hd Γ' S' hI σ' B' H' (c'.less c1.bk)⟩
  obtain ⟨T, x1, y1, rfl, hT, rfl, ex, ey⟩ := hy
  obtain ⟨d, hdi, hx⟩ := dpAll_of hall ex
  rw [List.getElem?_map] at hdi
  obtain ⟨u, hu, rfl⟩ := Option.map_eq_some_iff.mp hdi
  obtain ⟨d, hdi, hx2⟩ := dpAll_of hall2 ey
  rw [List.getElem?_map] at hdi
  obtain ⟨w, hw, rfl⟩ := Option.map_eq_some_iff.mp hdi
  obtain ⟨Γ2, g2, n2⟩ := hs B1 c1.bk i u w Γ' S' hu hw hI
  have gr : Gr B' H' (upd H' T (.tup [x1, y1])) (upd B' T (.tup [x1, y1])) := (Gr.base c'.x (Ex.refl _)).new _ hT
  have c2 := c'.gr gr
  have ex := c'.bk.trans gr.xd
  exact g2 σ' _ _ (.ref T) c2 (.tup (st_of upd_same) (.cons (dp_ex ex _ _ hx) (.cons (dp_ex ex _ _ hx2) .nil))) _ fun σ2 c3 => n2 σ2 _ _ c3
/-- what comes behind, told once -/
theorem a_fin {t u : TS} (I : List Sl → List Ob → Prop) (h1 : ∀ Γ' S', I Γ' S' → AN V (u D) Γ' S') (h2 : (∀ Γ' S', I Γ' S' → AN V (u D) Γ' S') → AN V (tSeq t u D) Γ S) : AN V (tSeq t u D) Γ S := h2 h1
/-- known[name] -/
theorem ae_kix {x : Str} {v : Int} {ty : TE} (hi : Γ[i]? = some (.at p)) (hk : S[k]? = some (kO p mm)) (hx : AE V true ty Γ S (.str x)) (hv : mm.lookup x = some (some v)) : AE V m (tDGet (tVar i) ty) Γ S (.int v) := fun σ B H c => by
  obtain ⟨Mf, cs⟩ := c.cs
  obtain ⟨h1, h2, h3⟩ := cs.ob k _ hk
  exact evb_i c.sx (ev_dget (k := .inr x) (AV.at hi σ B H c) (evB_str (hx σ B H c)) h3 (by rw [encK_val, hv]; rfl))
end
end LC

namespace LC
open PySem PySem.Spec PyProof.Rows L2 Evl LamX NdefX
section
variable {V : Nv} {Γ Γ' : List Sl} {S S1 S2 S' : List Ob} {m : Bool} {te ta tb tl : TE} {tt : TT} {D : Ends} {i j k : Nat} {vs : List Nat}
theorem ae_lstRg {n : Nat} (hn : n ≤ 1000) (h : AE V m te Γ S (.int (n : Int))) : AE V m (tLstRg (tRg1 te)) Γ S (natL (List.range n)) := fun σ B H c H1 e Q q => h σ B H c H1 e _ fun v H2 A g hd => by
  rw [dp_int hd]
  refine ⟨_, rfl, ⟨by omega, by omega, by omega, by omega, by omega⟩, fun p hp => ?_⟩
  have e : rgV 0 (n : Int) = (List.range n).map fun i : Nat => L2.V.int (i : Int) := by
    unfold rgV
    simp
  rw [e]
  exact q _ _ _ (g.new _ hp) (.lst upd_same (dt_nats _))
theorem ae_lstRg2 {lo n : Nat} (hl : lo ≤ 1000) (hn : n ≤ 1000) (ha : AE V m ta Γ S (.int (lo : Int))) (hb : AE V m tb Γ S (.int ((lo + n : Nat) : Int))) : AE V m (tLstRg (tRg2 ta tb)) Γ S (natL (List.range' lo n)) := fun σ B H c H1 e Q q => ha σ B H c H1 e _ fun v H2 A g hd => hb σ B H c H2 (e.trans g.ex) _ fun w H3 C g2 hd2 => by
  rw [dp_int hd, dp_int hd2]
  refine ⟨_, _, rfl, rfl, ⟨by omega, by omega, by omega, by omega, by omega⟩, fun p hp => ?_⟩
  have e : rgV (lo : Int) ((lo + n : Nat) : Int) = (List.range' lo n).map fun i : Nat => L2.V.int (i : Int) := by
    unfold rgV
    rw [show (((lo + n : Nat) : Int) - (lo : Int)).toNat = n by omega, List.range'_eq_map_range, List.map_map]
    refine List.map_congr_left fun i _ => ?_
    simp
  rw [e]
  exact q _ _ _ ((g.join g2).new _ hp) (.lst upd_same (dt_nats _))
/-- over what a call tells -/
theorem am_lcL {α : Type} {xs : List α} (f0 : α → PyData) (f : α → Bool) (g : α → PyData) (h : AM V tl Γ S (.list (xs.map f0)) S1) (hz : xs.length ≤ 40000) (hj : j ∈ vs)
    (ht : ∀ a ∈ xs, AT V tt ((wipeS Γ vs).set j (.dat (f0 a))) S1 (f a)) (he : ∀ a ∈ xs, f a = true → AE V false te ((wipeS Γ vs).set j (.dat (f0 a))) S1 (g a)) :
    AM V (tLc (iSeq V.K tl) (gName j) tt te vs) Γ S (.list ((xs.filter f).map g)) S1 := fun σ B H c Q q => by
  refine .inl (h σ B H c _ fun v A H2 c2 e1 hd => ?_)
  obtain ⟨a, ys, rfl, hs, hall⟩ := dp_lst hd
  have hlen := dpAll_len hall
  rw [List.length_map] at hlen
  have gr : Gr A H2 H2 A := Gr.base c2.x (Ex.refl _)
  refine ⟨a, rfl, ⟨ys, sq_of (c2.x _ _ hs)⟩, fun D hD => ?_⟩
  refine lc_list (K := V.K) (a := a) (xs := ys) (fun i H' => Acc V.K A H2 D (((xs.take i).filter f).map g) H') (Acc.nil gr.d2 hD) (fun i H' _ p => sq_of (p.base _ _ hs)) (fun i x H' hi p => ?_) fun H' p => ?_
  · obtain ⟨d, hdi, hx⟩ := dpAll_of hall hi
    rw [List.getElem?_map] at hdi
    obtain ⟨w, hw, rfl⟩ := Option.map_eq_some_iff.mp hdi
    have hm : w ∈ xs := List.mem_of_getElem? hw
    have hl := outX_len (xs := xs) f g i
    have c3 := (c2.wipe vs).dat (i := j) hx
    refine ⟨wipe_set hj, ?_⟩
    rw [outX_snoc f g hw]
    exact lc_turnE gr.d2 hD p (by omega) (ht w hm _ A H2 c3) (fun hf => he w hm hf _ A H2 c3)
  · have p2 : Acc V.K A H2 D (((xs.take ys.length).filter f).map g) H' := p
    rw [hlen, List.take_length] at p2
    obtain ⟨Hd, g1, g2⟩ := p2.done gr.xd gr.fr gr.ex hD
    exact q _ Hd H' (c2.gr g1) (e1.trans g1.xd) g2
theorem filt_t {α : Type} (l : List α) : l.filter (fun _ => true) = l := List.filter_eq_self.mpr fun _ _ => rfl
theorem AE.ft {α : Type} {xs : List α} {g : α → PyData} (h : AE V m te Γ S (.list ((xs.filter fun _ => true).map g))) : AE V m te Γ S (.list (xs.map g)) := by rw [filt_t] at h; exact h
theorem AM.ft {α : Type} {xs : List α} {g : α → PyData} (h : AM V te Γ S (.list ((xs.filter fun _ => true).map g)) S') : AM V te Γ S (.list (xs.map g)) S' := by rw [filt_t] at h; exact h
end
end LC

namespace LC
open PySem PySem.Spec PyProof.Rows L2 Evl LamX NdefX
/-! ### the laws' own notebook: dicts in dicts -/
structure BkP where
  c : Addr
  r : Addr
  ad : Nat → Addr
def bkRec (K : Frag) (B : Hp) (v : V) : Option RecS → Prop
  | none => v = .non
  | some r => ∃ p lv av sv dv wv, v = .ref p ∧ B p = some (.dK [(.inr "source", lv), (.inr "asked", av), (.inr "shown", sv), (.inr "sets", .ref dv), (.inr "why", wv)]) ∧ Dt K B lv (encS r.lines) ∧ Dt K B av (.list (r.asked.map encAsk)) ∧ Dt K B sv (.list (r.shown.map PyData.int)) ∧ B dv = some (.dK (encM r.sets)) ∧ Dt K B wv (encWhy r.why)
theorem bkRec.mono {K : Frag} {B B' : Hp} {v : V} (e : Ex B B') : ∀ {r : Option RecS}, bkRec K B v r → bkRec K B' v r
  | none, h => h
  | some r, ⟨p, lv, av, sv, dv, wv, h1, h2, h3, h4, h5, h6, h7⟩ => ⟨p, lv, av, sv, dv, wv, h1, e _ _ h2, dp_ex e _ _ h3, dp_ex e _ _ h4, dp_ex e _ _ h5, e _ _ h6, dp_ex e _ _ h7⟩
def bkCellO (lv : V) (n : Nat) (b : Bool) (rv : V) : HO := .dK [(.inr "source", lv), (.inr "version", .int (n : Int)), (.inr "struck", .bl b), (.inr "record", rv)]
def bkHead (p : BkP) (n : Nat) : HO := .dK [(.inr "cells", .ref p.c), (.inr "row", .ref p.r), (.inr "after", .int (n : Int))]
def BkCell (K : Frag) (B H : Hp) (a : Addr) (c : CellS) : Prop := ∃ lv rv, H a = some (bkCellO lv c.count c.struck rv) ∧ Dt K B lv (encS c.src) ∧ bkRec K B rv c.recd
structure BkL (K : Frag) (M : Addr → Prop) (B H : Hp) (sd : Addr) (st : NbS) (p : BkP) : Prop where
  m : ∀ a, M a ↔ (a = sd ∨ a = p.c ∨ a = p.r ∨ ∃ n ∈ st.row, a = p.ad n)
  mb : ∀ a, M a → B a = none
  hs : H sd = some (bkHead p st.after)
  hc : ∃ kvs, H p.c = some (.dK kvs) ∧ (∀ n ∈ st.row, valV kvs (.inl (n : Int)) = some (.ref (p.ad n))) ∧ (∀ i : Int, (∀ n ∈ st.row, (n : Int) ≠ i) → valV kvs (.inl i) = none) ∧ kvs.length ≤ st.after
  hr : H p.r = some (.lst (st.row.map fun n : Nat => V.int (n : Int)))
  cells : ∀ n ∈ st.row, BkCell K B H (p.ad n) (st.cell n)
  inj : ∀ n ∈ st.row, ∀ m ∈ st.row, p.ad n = p.ad m → n = m
  ne : sd ≠ p.c ∧ sd ≠ p.r ∧ p.c ≠ p.r ∧ ∀ n ∈ st.row, p.ad n ≠ sd ∧ p.ad n ≠ p.c ∧ p.ad n ≠ p.r
theorem BkCell.mono {K : Frag} {B B' H H' : Hp} {a : Addr} {c : CellS} (h : BkCell K B H a c) (e : Ex B B') (go : ∀ o, H a = some o → H' a = some o) : BkCell K B' H' a c := by
  obtain ⟨lv, rv, h1, h2, h3⟩ := h
  exact ⟨lv, rv, go _ h1, dp_ex e _ _ h2, h3.mono e⟩
def bkO (K : Frag) (sd : Addr) (st : NbS) (p : BkP) : Ob where
  ok M B H := BkL K M B H sd st p
  bm h a ha := by
    refine ⟨h.mb a ha, ?_⟩
    rcases (h.m a).mp ha with rfl | rfl | rfl | ⟨n, hn, rfl⟩
    · exact .inr (.inl ⟨_, h.hs⟩)
    · obtain ⟨kvs, h1, _⟩ := h.hc
      exact .inr (.inl ⟨_, h1⟩)
    · exact .inr (.inr ⟨_, h.hr⟩)
    · obtain ⟨lv, rv, h1, _⟩ := h.cells n hn
      exact .inr (.inl ⟨_, h1⟩)
  st h go xb x mb := by
    have ms := (h.m sd).mpr (.inl rfl)
    have mc := (h.m p.c).mpr (.inr (.inl rfl))
    have mr := (h.m p.r).mpr (.inr (.inr (.inl rfl)))
    obtain ⟨kvs, h1, h2⟩ := h.hc
    exact ⟨h.m, mb, go _ _ ms h.hs, ⟨kvs, go _ _ mc h1, h2⟩, go _ _ mr h.hr, fun n hn => (h.cells n hn).mono xb fun o => go _ _ ((h.m _).mpr (.inr (.inr (.inr ⟨n, hn, rfl⟩)))), h.inj, h.ne⟩
/-- a record, or None -/
def recP (K : Frag) (r : Option RecS) : VP := ⟨fun B v => bkRec K B v r, fun e h => h.mono e⟩
def AP (V : Nv) (te : TE) (Γ : List Sl) (S : List Ob) (P : VP) : Prop := ∀ σ B H, Ctx V Γ S σ B H → ∃ v, Ev te σ H v ∧ P.ok B v
section
variable {V : Nv} {Γ Γ' : List Sl} {S S1 S2 S' : List Ob} {m : Bool} {te ta tb tl ty : TE} {tt : TT} {D : Ends} {i j k : Nat} {vs : List Nat} {sd : Addr} {st : NbS} {p : BkP} {n : Nat} {P : VP} {r : RecS}
theorem AP.slot (h : Γ[i]? = some (.pr P)) : AP V (tVar i) Γ S P := fun σ B H c => by
  obtain ⟨o, h1, v, rfl, h2⟩ := c.sl i _ h
  exact ⟨v, ev_var h1, h2⟩
theorem a_setP (h : AP V te Γ S P) (q : AN V D.nx (Γ.set i (.pr P)) S) : AN V (tAsg te (gName i) D) Γ S := fun σ B H c => by
  obtain ⟨v, h1, h2⟩ := h σ B H c
  exact h1 H (Ex.refl H) _ fun H1 e1 => q _ B H1 ((c.ex e1).set (show SlOk V.K B (.pr P) (some v) from ⟨v, rfl, h2⟩))
theorem bk_at (hk : S[k]? = some (bkO V.K sd st p)) {σ : L2.St} {B H : Hp} (c : Ctx V Γ S σ B H) : ∃ M, BkL V.K M B H sd st p := by
  obtain ⟨Mf, cs⟩ := c.cs
  exact ⟨_, cs.ob k _ hk⟩
theorem av_row (hi : Γ[i]? = some (.at sd)) (hk : S[k]? = some (bkO V.K sd st p)) : AV V (tDGet (tVar i) (tC (.str "row"))) Γ S (.ref p.r) := fun σ B H c => by
  obtain ⟨M, L⟩ := bk_at hk c
  exact ev_dget (k := .inr "row") (AV.at hi σ B H c) ev_c L.hs rfl
theorem av_cells (hi : Γ[i]? = some (.at sd)) (hk : S[k]? = some (bkO V.K sd st p)) : AV V (tDGet (tVar i) (tC (.str "cells"))) Γ S (.ref p.c) := fun σ B H c => by
  obtain ⟨M, L⟩ := bk_at hk c
  exact ev_dget (k := .inr "cells") (AV.at hi σ B H c) ev_c L.hs rfl
theorem ae_after (hi : Γ[i]? = some (.at sd)) (hk : S[k]? = some (bkO V.K sd st p)) : AE V m (tDGet (tVar i) (tC (.str "after"))) Γ S (.int (st.after : Int)) := fun σ B H c => by
  obtain ⟨M, L⟩ := bk_at hk c
  exact evb_i c.sx (ev_dget (k := .inr "after") (AV.at hi σ B H c) ev_c L.hs rfl)
theorem av_bcell (hi : Γ[i]? = some (.at sd)) (hk : S[k]? = some (bkO V.K sd st p)) (hy : AE V true ty Γ S (.int (n : Int))) (hn : n ∈ st.row) : AV V (tDGet (tDGet (tVar i) (tC (.str "cells"))) ty) Γ S (.ref (p.ad n)) := fun σ B H c => by
  obtain ⟨M, L⟩ := bk_at hk c
  obtain ⟨kvs, h1, h2, _⟩ := L.hc
  exact ev_dget (k := .inl (n : Int)) (av_cells hi hk σ B H c) (evB_int (hy σ B H c)) h1 (h2 n hn)
/-- number in state["cells"] -/
theorem ae_binC {d : Int} (hi : Γ[i]? = some (.at sd)) (hk : S[k]? = some (bkO V.K sd st p)) (hy : AE V true ty Γ S (.int d)) : AE V m (tDIn ty (tDGet (tVar i) (tC (.str "cells")))) Γ S (.bool (isCellD st (.int d))) ∧ AE V m (tDNotIn ty (tDGet (tVar i) (tC (.str "cells")))) Γ S (.bool (!isCellD st (.int d))) := by
  have val : ∀ kvs : List (Key × L2.V), (∀ n ∈ st.row, valV kvs (.inl (n : Int)) = some (.ref (p.ad n))) → (∀ i : Int, (∀ n ∈ st.row, (n : Int) ≠ i) → valV kvs (.inl i) = none) → (valV kvs (.inl d)).isSome = isCellD st (.int d) := fun kvs h2 h3 => by
    cases h : isCellD st (.int d) with
    | true =>
      obtain ⟨n, hn, e⟩ := isCell_iff.mp h
      cases e
      rw [h2 n hn]
      rfl
    | false =>
      rw [h3 d fun n hn e => ?_]
      · rfl
      · have := isCell_iff.mpr ⟨n, hn, by rw [e]⟩
        rw [h] at this
        cases this
  constructor
  · intro σ B H c
    obtain ⟨M, L⟩ := bk_at hk c
    obtain ⟨kvs, h1, h2, h3, _⟩ := L.hc
    have := ev_din (k := .inl d) (evB_int (hy σ B H c)) (av_cells hi hk σ B H c) h1
    rw [val kvs h2 h3] at this
    exact evb_b c.sx this
  · intro σ B H c
    obtain ⟨M, L⟩ := bk_at hk c
    obtain ⟨kvs, h1, h2, h3, _⟩ := L.hc
    have := ev_dnotin (k := .inl d) (evB_int (hy σ B H c)) (av_cells hi hk σ B H c) h1
    rw [val kvs h2 h3] at this
    exact evb_b c.sx this
theorem ae_bstruck (hk : S[k]? = some (bkO V.K sd st p)) (hn : n ∈ st.row) (h : AV V te Γ S (.ref (p.ad n))) : AE V m (tDGet te (tC (.str "struck"))) Γ S (.bool (st.cell n).struck) := fun σ B H c => by
  obtain ⟨M, L⟩ := bk_at hk c
  obtain ⟨lv, rv, h1, _⟩ := L.cells n hn
  exact evb_b c.sx (ev_dget (k := .inr "struck") (h σ B H c) ev_c h1 rfl)
theorem ae_bver (hk : S[k]? = some (bkO V.K sd st p)) (hn : n ∈ st.row) (h : AV V te Γ S (.ref (p.ad n))) : AE V m (tDGet te (tC (.str "version"))) Γ S (.int ((st.cell n).count : Int)) := fun σ B H c => by
  obtain ⟨M, L⟩ := bk_at hk c
  obtain ⟨lv, rv, h1, _⟩ := L.cells n hn
  exact evb_i c.sx (ev_dget (k := .inr "version") (h σ B H c) ev_c h1 rfl)
theorem ae_bsrc (hk : S[k]? = some (bkO V.K sd st p)) (hn : n ∈ st.row) (h : AV V te Γ S (.ref (p.ad n))) : AE V m (tDGet te (tC (.str "source"))) Γ S (encS (st.cell n).src) := fun σ B H c => by
  obtain ⟨M, L⟩ := bk_at hk c
  obtain ⟨lv, rv, h1, h2, _⟩ := L.cells n hn
  exact evb_v c.sx (ev_dget (k := .inr "source") (h σ B H c) ev_c h1 rfl) (sel_dp c.x h2)
theorem ap_brec (hk : S[k]? = some (bkO V.K sd st p)) (hn : n ∈ st.row) (h : AV V te Γ S (.ref (p.ad n))) : AP V (tDGet te (tC (.str "record"))) Γ S (recP V.K (st.cell n).recd) := fun σ B H c => by
  obtain ⟨M, L⟩ := bk_at hk c
  obtain ⟨lv, rv, h1, _, h3⟩ := L.cells n hn
  exact ⟨rv, ev_dget (k := .inr "record") (h σ B H c) ev_c h1 rfl, h3⟩
theorem AP.is {P' : VP} (h : AP V te Γ S P) (e : P = P') : AP V te Γ S P' := e ▸ h
theorem ae_rsrc (h : AP V te Γ S (recP V.K (some r))) : AE V m (tDGet te (tC (.str "source"))) Γ S (encS r.lines) := fun σ B H c => by
  obtain ⟨v, h1, q, lv, av, sv, dv, wv, rfl, h2, h3, h4, h5, h6, h7⟩ := h σ B H c
  exact evb_v c.sx (ev_dget (k := .inr "source") h1 ev_c (c.x _ _ h2) rfl) (sel_dp c.x h3)
theorem ae_rask (h : AP V te Γ S (recP V.K (some r))) : AE V m (tDGet te (tC (.str "asked"))) Γ S (.list (r.asked.map encAsk)) := fun σ B H c => by
  obtain ⟨v, h1, q, lv, av, sv, dv, wv, rfl, h2, h3, h4, h5, h6, h7⟩ := h σ B H c
  exact evb_v c.sx (ev_dget (k := .inr "asked") h1 ev_c (c.x _ _ h2) rfl) (sel_dp c.x h4)
theorem ae_rshown (h : AP V te Γ S (recP V.K (some r))) : AE V m (tDGet te (tC (.str "shown"))) Γ S (.list (r.shown.map PyData.int)) := fun σ B H c => by
  obtain ⟨v, h1, q, lv, av, sv, dv, wv, rfl, h2, h3, h4, h5, h6, h7⟩ := h σ B H c
  exact evb_v c.sx (ev_dget (k := .inr "shown") h1 ev_c (c.x _ _ h2) rfl) (sel_dp c.x h5)
theorem ae_rwhy (h : AP V te Γ S (recP V.K (some r))) : AE V m (tDGet te (tC (.str "why"))) Γ S (encWhy r.why) := fun σ B H c => by
  obtain ⟨v, h1, q, lv, av, sv, dv, wv, rfl, h2, h3, h4, h5, h6, h7⟩ := h σ B H c
  exact evb_v c.sx (ev_dget (k := .inr "why") h1 ev_c (c.x _ _ h2) rfl) (sel_dp c.x h7)
theorem ae_rget {x : Str} (h : AP V te Γ S (recP V.K (some r))) (hx : AE V true ty Γ S (.str x)) : AE V m (tDGet2 (tDGet te (tC (.str "sets"))) ty (tC .non)) Γ S (encO (r.sets.lookup x)) := fun σ B H c => by
  obtain ⟨v, h1, q, lv, av, sv, dv, wv, rfl, h2, h3, h4, h5, h6, h7⟩ := h σ B H c
  have := ev_get2 (k := .inr x) (ev_dget (k := .inr "sets") h1 ev_c (c.x _ _ h2) rfl) (c.x _ _ h6) (evB_str (hx σ B H c)) ev_c (z := .non)
  rw [encM_val] at this
  refine evb_v c.sx this ?_
  cases r.sets.lookup x with
  | none => exact .non
  | some v => exact .int v
theorem ae_rnone {o : Option RecS} (h : AP V te Γ S (recP V.K o)) : AE V m (tOp (fun x y H Q => y = L2.V.non ∧ Q (.bl (decide (x = .non))) H) te (tC .non)) Γ S (.bool o.isNone) ∧ AE V m (tOp (fun x y H Q => y = L2.V.non ∧ Q (.bl (!decide (x = .non))) H) te (tC .non)) Γ S (.bool o.isSome) := by
  constructor
  · intro σ B H c
    obtain ⟨v, h1, h2⟩ := h σ B H c
    have := ev_isN h1
    cases o with
    | none =>
      have h2 : v = .non := h2
      subst h2
      exact evb_b c.sx this
    | some r =>
      obtain ⟨q, _, _, _, _, _, rfl, _⟩ := h2
      exact evb_b c.sx this
  · intro σ B H c
    obtain ⟨v, h1, h2⟩ := h σ B H c
    have := ev_notN h1
    cases o with
    | none =>
      have h2 : v = .non := h2
      subst h2
      exact evb_b c.sx this
    | some r =>
      obtain ⟨q, _, _, _, _, _, rfl, _⟩ := h2
      exact evb_b c.sx this
/-- the row, looked at -/
theorem ae_row (hi : Γ[i]? = some (.at sd)) (hk : S[k]? = some (bkO V.K sd st p)) : AE V true (tDGet (tVar i) (tC (.str "row"))) Γ S (natL st.row) := fun σ B H c => by
  obtain ⟨M, L⟩ := bk_at hk c
  exact evb_v (Ex.refl H) (av_row hi hk σ B H c) (.lst L.hr (dt_nats _))
end
end LC

namespace LC
open PySem PySem.Spec PyProof.Rows L2 Evl LamX NdefX
theorem units65 {k : Nat} {A : Around} (r : Room k A) : A.units + 65 < cLine := by have := r.un; omega
theorem kInD {X : Cx} {K : Frag} (h : X.K = K) (hu : X.A.units + 65 < cLine) : OpR X (compareOp .In) (rInD K) := h ▸ op_inD hu
theorem kNotInD {X : Cx} {K : Frag} (h : X.K = K) (hu : X.A.units + 65 < cLine) : OpR X (compareOp .NotIn) (rNotInD K) := h ▸ op_notInD hu
theorem rvd_inD {K : Frag} {d : PyData} {ds : List PyData} (h1 : SeqAt.shaped d = true) (h2 : SeqAt.shaped (.list ds) = true) : RvD K (rInD K) d (.list ds) (.bool (ds.any fun z => PyData.eqv z d)) := rvd_val (v := .bl _) (fun x y H1 hx hy Q q => ⟨d, ds, dt_dp _ _ hx, dt_dp _ _ hy, h1, h2, q⟩) fun _ => .bl _
theorem rvd_notInD {K : Frag} {d : PyData} {ds : List PyData} (h1 : SeqAt.shaped d = true) (h2 : SeqAt.shaped (.list ds) = true) : RvD K (rNotInD K) d (.list ds) (.bool (!ds.any fun z => PyData.eqv z d)) := rvd_val (v := .bl _) (fun x y H1 hx hy Q q => ⟨d, ds, dt_dp _ _ hx, dt_dp _ _ hy, h1, h2, q⟩) fun _ => .bl _
section
variable {V : Nv} {Γ Γ' : List Sl} {S S1 S2 S' : List Ob} {m : Bool} {te ta tb tl ty : TE} {tt : TT} {D : Ends} {i j k : Nat} {vs : List Nat} {sd : Addr} {st : NbS} {p : BkP} {n : Nat}
theorem ae_rowIx (hi : Γ[i]? = some (.at sd)) (hk : S[k]? = some (bkO V.K sd st p)) (nd : st.row.Nodup) (hn : n ∈ st.row) (hy : AE V true ty Γ S (.int (n : Int))) : AE V m (tBM V.K "list" (rIndex V.K) (tDGet (tVar i) (tC (.str "row"))) (tCons ty tNil)) Γ S (.int (st.row.idxOf n : Int)) := fun σ B H c => by
  obtain ⟨M, L⟩ := bk_at hk c
  exact evb_i c.sx (ev_index (av_row hi hk σ B H c) L.hr hn nd (evB_int (hy σ B H c)))
theorem ae_rowSl {lo hi' : TO} {l h : Option Int} (hi : Γ[i]? = some (.at sd)) (hk : S[k]? = some (bkO V.K sd st p)) (hl : ∀ σ B H, Ctx V Γ S σ B H → EvO lo σ H l) (hh : ∀ σ B H, Ctx V Γ S σ B H → EvO hi' σ H h) : AE V m (tSl (rSlU V.K) (tDGet (tVar i) (tC (.str "row"))) lo hi') Γ S (.list (cutD (st.row.map fun n : Nat => PyData.int (n : Int)) l h)) := fun σ B H c H1 e Q q => by
  obtain ⟨M, L⟩ := bk_at hk c
  refine av_row hi hk σ B H c H1 e _ fun H2 e2 => hl σ B H c H2 (e.trans e2) _ fun H3 e3 => hh σ B H c H3 ((e.trans e2).trans e3) _ fun H4 e4 => ?_
  have E := (e2.trans e3).trans e4
  exact .inl ⟨p.r, _, rfl, sq_of ((e.trans E) _ _ L.hr), fun l' hl' => q _ _ _ ((Gr.base (c.sx.trans e) E).new _ hl') (.lst upd_same (cutV_dp (dt_nats _) _ _))⟩
theorem row_ahead (st : NbS) (n : Nat) : PyData.list (cutD (st.row.map fun n : Nat => PyData.int (n : Int)) none (some (st.row.idxOf n : Int))) = natL (ahead st n) := by
  rw [cut_upto, ← List.map_take]
  rfl
end
/-! rows, by their first two -/
def row2 (r : Rw) : PyData := match r with
  | .set x _ => .tuple [.str "set", .str x]
  | .shw q => .tuple [.str "show", q.enc]
theorem row2_cut (r : Rw) : ∃ ds, r.enc = .tuple ds ∧ PyData.tuple (cutD ds none (some 2)) = row2 r := by
  cases r with
  | set x q => exact ⟨_, rfl, rfl⟩
  | shw q => exact ⟨_, rfl, rfl⟩
theorem sm_shape {q : Sm} (hg : q.good = true) (hd : q.depth ≤ 6) : ShN 40 q.enc := by
  have h1 := ok_sum q hg
  have h2 := Sm.enc_depth q
  refine ⟨?_, ?_⟩
  · have := shaped_of h1 (by omega)
    exact SeqAt.canLay_of_shaped this
  · omega
theorem row2_shape {r : Rw} (hg : r.good = true) : ShN 41 (row2 r) := by
  have o1 : PyData.strOk "set" = true := by decide +kernel
  have o2 : PyData.strOk "show" = true := by decide +kernel
  cases r with
  | set x q =>
    have hx : nameS x = true := by
      unfold Rw.good at hg
      simp only [Bool.and_eq_true] at hg
      exact hg.1
    have h1 := ok_of_name hx
    unfold okD at h1
    refine sh_tup fun d hd => ?_
    simp only [List.mem_cons, List.not_mem_nil, or_false] at hd
    rcases hd with rfl | rfl
    · exact sh_str o1
    · exact sh_str (Bool.and_eq_true_iff.mp h1).2
  | shw q =>
    have h := Rw.good_sum hg
    refine sh_tup fun d hd => ?_
    simp only [List.mem_cons, List.not_mem_nil, or_false] at hd
    rcases hd with rfl | rfl
    · exact sh_str o2
    · exact sm_shape h.1 h.2
theorem any_row2 (x : Str) : ∀ src : Src, (src.map row2).any (fun z => PyData.eqv z (.tuple [.str "set", .str x])) = decide (x ∈ setsOf src)
  | [] => rfl
  | .set y q :: r => by
    rw [List.map_cons, List.any_cons, any_row2 x r]
    have e : PyData.eqv (row2 (.set y q)) (.tuple [.str "set", .str x]) = decide (x = y) := by
      show ((("set" : Str) == "set") && ((y == x) && true)) = _
      rw [Bool.eq_iff_iff]
      simp
      exact ⟨fun h => h.symm, fun h => h.symm⟩
    have s : setsOf (.set y q :: r) = y :: setsOf r := rfl
    rw [e, s, Bool.eq_iff_iff]
    simp
  | .shw q :: r => by
    rw [List.map_cons, List.any_cons, any_row2 x r]
    have e : PyData.eqv (row2 (.shw q)) (.tuple [.str "set", .str x]) = false := by
      show ((("show" : Str) == "set") && (PyData.eqv q.enc (.str x) && true)) = false
      rw [show (("show" : Str) == "set") = false by decide +kernel]
      rfl
    have s : setsOf (.shw q :: r) = setsOf r := rfl
    rw [e, s, Bool.false_or]
def R_lset (K : Frag) : RA := fun Γ S o S' => ∃ sd st p, ∃ (n : Nat) (x : Str), Γ = [.at sd, .dat (.int (n : Int)), .dat (.str x)] ∧ S = [bkO K sd st p] ∧ NbG st ∧ n ∈ st.row ∧ nameS x = true ∧ o = .inl (encI (setterF st n x)) ∧ S' = [bkO K sd st p]
def R_lnum (K : Frag) : RA := fun Γ S o S' => ∃ sd st p, ∃ (om : Option Nat) (x : Str), Γ = [.at sd, .dat (encI om), .dat (.str x)] ∧ S = [bkO K sd st p] ∧ (∀ m, om = some m → m ∈ st.row ∧ ∃ r, (st.cell m).recd = some r) ∧ o = .inl (encO (lastT st om x)) ∧ S' = [bkO K sd st p]
def R_lfresh (K : Frag) : RA := fun Γ S o S' => ∃ sd st p, Γ = [.at sd] ∧ S = [bkO K sd st p] ∧ Sit st ∧ o = .inl (natL (freshL st)) ∧ S' = [bkO K sd st p]
section
variable {V : Nv} {Γ Γ' : List Sl} {S S1 S2 S' : List Ob} {m : Bool} {te ta tb tl ty : TE} {tu : TS} {D : Ends} {i j k : Nat} {sd : Addr} {st : NbS} {p : BkP}
theorem a_forget {nx : L2.St → Hp → Prop} (q : AN V nx Γ S) : AN V nx Γ (S ++ S2) := fun σ B H c => by
  obtain ⟨Mf, cs⟩ := c.cs
  exact q σ B H (c.to (Ex.refl B) cs.take)
/-- a for over the row, which stays -/
theorem a_forBRow (hi : Γ[i]? = some (.at sd)) (hk : S[k]? = some (bkO V.K sd st p)) (I : Nat → List Sl → List Ob → Prop) (h0 : I 0 Γ S) (hI : ∀ l Γ' S', I l Γ' S' → ∃ st', st'.row = st.row ∧ S'[k]? = some (bkO V.K sd st' p))
    (hs : ∀ (l n : Nat) Γ' S', st.row[l]? = some n → I l Γ' S' → AN V (tu { D with nx := IN V (I (l + 1)), ct := IN V (I (l + 1)), bk := D.nx }) (Γ'.set j (.dat (.int (n : Int)))) S') (hd : ∀ Γ' S', I st.row.length Γ' S' → AN V D.nx Γ' S') :
    AN V (tFor (iSeq V.K (tDGet (tVar i) (tC (.str "row")))) (gName j) tu D) Γ S := fun σ B H c => by
  obtain ⟨M, L⟩ := bk_at hk c
  refine s_forM (K := V.K) (av_row hi hk σ B H c) L.hr (fun l => IN V (I l)) (fun H1 e1 => ⟨Γ, S, B, c.ex e1, h0⟩) (fun l σ' H' ⟨Γ', S', B', c', q⟩ => ?_) (fun l x σ' H' hl ⟨Γ', S', B', c', q⟩ => ?_) fun σ' H' ⟨Γ', S', B', c', q⟩ => hd Γ' S' (by rw [List.length_map] at q; exact q) σ' B' H' c'
  · obtain ⟨st', e, h⟩ := hI l Γ' S' q
    obtain ⟨M', L'⟩ := bk_at h c'
    rw [← e]
    exact L'.hr
  · rw [List.getElem?_map] at hl
    obtain ⟨n, hn, rfl⟩ := Option.map_eq_some_iff.mp hl
    exact hs l n Γ' S' hn q _ B' H' (c'.dat (.int _))
end
end LC

namespace LC
open PySem PySem.Spec PyProof.Rows L2 Evl LamX NdefX
/-! ### a dict display whose keys are pairs (number, bool), looked up at once -/
structure KP where
  ad : Addr
  i : Int
  c : Bool
  v : V
def keyP (i : Int) (c : Bool) : List Leaf := [.num i, .num (if c = true then 1 else 0)]
theorem keyP_inj {i j : Int} {c d : Bool} (h : keyP i c = keyP j d) : i = j ∧ c = d := by
  unfold keyP at h
  injection h with h1 h2
  injection h2 with h2 _
  injection h1 with h1
  injection h2 with h2
  refine ⟨h1, ?_⟩
  cases c <;> cases d <;> simp at h2 <;> rfl
def KP.key (k : KP) : List Leaf := keyP k.i k.c
def findP (ks : List KP) (i : Int) (c : Bool) : Option V := (ks.find? fun k => decide (k.key = keyP i c)).map (·.v)
def tDispP (trs : List (TE × TE)) (ty : TE) : TE := fun σ H Q => ∀ p, H p = none → tPairs trs σ (upd H p (.dK [])) fun ps H2 => H2 p = some (.dK []) ∧ ∃ ks : List KP, ps = ks.map (fun k => (V.ref k.ad, k.v)) ∧
  (∀ k ∈ ks, H2 k.ad = some (.tup [.int k.i, .bl k.c])) ∧ (ks.map KP.key).Nodup ∧
  ∀ φ, ty σ (upd H2 p (.ext φ)) fun y H3 => ∃ b i c v, H3 p = some (.ext φ) ∧ (∀ k ∈ ks, H3 k.ad = some (.tup [.int k.i, .bl k.c])) ∧ y = .ref b ∧ H3 b = some (.tup [.int i, .bl c]) ∧ findP ks i c = some v ∧ Q v H3
theorem keyP_of {P : Program} {w : World} {H : Hp} {h : Heap} {a : Addr} {i : Int} {c : Bool} (ok : HOk P w H h) (e : H a = some (.tup [.int i, .bl c])) : (tupleKind (leafKind P w)).is h (keyP i c) a := by
  obtain ⟨_, its, r, o, h1, h2, n, h3⟩ := (show ObjOk P w H h a (.tup [.int i, .bl c]) from ok a _ e)
  refine ⟨o, its.toArray, n, h1, h2, h3, ?_⟩
  cases r with
  | cons r1 r =>
    cases r with
    | cons r2 r =>
      cases r
      obtain ⟨t, rfl⟩ := r1
      cases (show _ = Value.bool c from r2)
      exact .cons (decide_eq_true rfl) (.cons (decide_eq_true rfl) .nil)
theorem wpAny_Dict_pairsH2 {prog : Program} {w : World} {K : Type} [DecidableEq K] {knd : HeapKind prog w K} {A : Around} {E : Value → Shared → Prop} {s : Shared} {env : Env} {keys : List (Option Expr)} {values : List Expr} {pos : Pos} {pairs : List (Sem Value × Sem Value)} {Q : Value → Shared → Prop} (hu : knd.room A)
    (hshape : (evalEachOpt keys env).zip ((evalEach values env).map fun v => do let x ← v; standAt pos; pure x) = pairs.map fun p => (some p.1, p.2)) (h0 : pairs ≠ []) (hlen : pairs.length ≤ 15)
    (h : wpAny (model prog w) A (evalPairs pairs) (fun vs s₁ => ∃ ps, CarriesH knd s₁.heap vs ps ∧ s₁.heap.DictOfH knd s.heap.objs.size [] ∧
      ∀ h' tk, h'.DictOfH knd s.heap.objs.size (storedAllH [] ps) → Heap.SameBut s.heap.objs.size s₁.heap h' → Q (.ref s.heap.objs.size) { s₁ with heap := h', toks := tk }) E
      { s with heap := s.heap.push { cls := .type "dict", data := .dict #[] } }) :
    wpAny (model prog w) A (eval (.Dict keys values pos) env) Q E s := by
  rw [arm_eval_Dict, hshape, dictDisplay_pairs pairs h0 (by omega)]
  exact wpAny_bind (wpAny_standAt (wpAny_bind (wpAny_subDictH (knd := knd) (Q := fun d s' => wpAny (model prog w) A (pure (Value.ref d)) Q E s') hu hlen
    (wpAny_mono h (fun vs s₁ h₁ => by obtain ⟨ps, hc, hm, hq⟩ := h₁; exact ⟨ps, hc, hm, fun h' tk a b => wpAny_pure (hq h' tk a b)⟩) fun _ _ e => e))))
theorem carriesP {P : Program} {w : World} {H : Hp} {h : Heap} (ok : HOk P w H h) : ∀ {ks : List KP} {ws : List (Value × Value)}, VV (ks.map fun k => (V.ref k.ad, k.v)) ws → (∀ k ∈ ks, H k.ad = some (.tup [.int k.i, .bl k.c])) →
    ∃ ps : List (List Leaf × Addr × Value), CarriesH (tupleKind (leafKind P w)) h ws ps ∧ ps.map (·.1) = ks.map KP.key ∧ (∀ x ∈ ps, ∃ k ∈ ks, x.1 = k.key ∧ x.2.1 = k.ad) ∧ ∀ i c v, findP ks i c = some v → ∃ q, atKey ps (keyP i c) = some q ∧ RelV v q.2
  | [], _, r, _ => by
    rw [List.map_nil] at r
    cases r
    exact ⟨[], True.intro, rfl, fun x hx => (nomatch hx), fun i c v h => (nomatch h)⟩
  | k :: ks, _, r, hk => by
    rw [List.map_cons] at r
    cases r with
    | @cons a b as bs h1 t =>
      obtain ⟨ps, c, e, m, f⟩ := carriesP ok t fun k hk' => hk k (List.mem_cons_of_mem _ hk')
      obtain ⟨b1, b2⟩ := b
      cases (show b1 = Value.ref k.ad from h1.1)
      refine ⟨(k.key, k.ad, b2) :: ps, ⟨rfl, rfl, keyP_of ok (hk k (List.mem_cons_self ..)), c⟩, by rw [List.map_cons, List.map_cons, e], fun x hx => ?_, fun i cc v hv => ?_⟩
      · rcases List.mem_cons.mp hx with rfl | hx
        · exact ⟨k, List.mem_cons_self .., rfl, rfl⟩
        · obtain ⟨k', h1, h2⟩ := m x hx
          exact ⟨k', List.mem_cons_of_mem _ h1, h2⟩
      · by_cases q : k.key = keyP i cc
        · have : findP (k :: ks) i cc = some k.v := by simp [findP, List.find?_cons, q]
          rw [this] at hv
          cases hv
          exact ⟨(k.ad, b2), by simp [atKey, List.find?_cons, q], h1.2⟩
        · have : findP (k :: ks) i cc = findP ks i cc := by simp [findP, List.find?_cons, q]
          rw [this] at hv
          obtain ⟨z, hz, rz⟩ := f i cc v hv
          exact ⟨z, by rw [← hz]; simp [atKey, List.find?_cons, q], rz⟩
theorem pe_dispP {X : Cx} {pos dpos : Pos} {keys : List (Option Expr)} {values : List Expr} {i : Expr} {trs : List (TE × TE)} {ty : TE} (hu : X.A.units + 1 < cLine) (h : PPs X dpos keys values trs) (hall : keys.all (·.isSome) = true) (hl : keys.length = values.length) (h0 : keys ≠ [])
    (h15 : keys.length ≤ 15) (hi : PE X i ty) (hs : NoSl i) : PE X (.Subscript (.Dict keys values dpos) i pos) (tDispP trs ty) := by
  refine ⟨fun pins s σ H Q I q => ?_⟩
  have hn := I.hok.fresh (Nat.le_refl s.heap.objs.size)
  have I1 := I.laid (a := s.heap.objs.size) (o := .dK []) (h' := s.heap.push { cls := .type "dict", data := .dict #[] }) (t' := s.toks) (fun _ _ q => Heap.get?_push_of_some _ q) (Nat.le_refl _) (dk_empty s.heap I.big)
  have hpl := pairTrees_length keys values X.env dpos hall hl
  refine subD_of PySem.F.slot_dict_getitem.lookup hs (wpAny_Dict_pairsH2 (knd := tupleKind (leafKind X.prog X.w)) (by show X.A.units < cLine; omega) (zip_pairTrees keys values X.env dpos hall hl) (fun he => h0 (by rw [he] at hpl; exact List.length_eq_zero_iff.mp hpl.symm)) (by rw [hpl]; exact h15) (thn (h.run pins _ σ _ _ I1 (q _ hn)) fun ws s2 ⟨ps, H2, I2, rel, e, ks, ep, hk, hnd, q2⟩ => ?_))
  subst ep
  obtain ⟨qs, c, ek, hm, hf⟩ := carriesP I2.hok rel hk
  obtain ⟨z, hd, vs0, r0, dd⟩ := dk_of I2.hok e
  cases r0
  have dd0 : s2.heap.DictOfH (tupleKind (leafKind X.prog X.w)) s.heap.objs.size [] := by
    obtain ⟨o, es, ep, a1, a2, a3, a4, a5, _⟩ := dd
    refine ⟨o, es, ep, a1, a2, a3, ?_, fun x hx => (nomatch hx), List.nodup_nil⟩
    cases q : es.toList with
    | nil => rfl
    | cons x r => rw [q] at a5; cases a5
  refine ⟨qs, c, dd0, fun h' tk dd' hsb => ?_⟩
  rw [storedAllH_nil_of_nodup qs (by rw [ek]; exact hnd)] at dd'
  obtain ⟨o, es, ep, a1, a2, a3, a4, a5, a6⟩ := dd'
  have I3 : Inv X pins σ (upd H2 s.heap.objs.size (.ext fun h => h.get? s.heap.objs.size = some o)) { s2 with heap := h', toks := tk } := d_write I2 (by rw [e]; exact True.intro) hsb ⟨o, a1⟩ ⟨a1, ⟨o, a1⟩, fun h1 h2 e1 e2 => e2 _ e1⟩
  refine thn (hi.run pins _ σ _ _ I3 (q2 _)) fun u s4 ⟨y, H4, I4, ry, b, ii, cc, v, hp4, hk4, ey, hb, hv, q4⟩ => ?_
  subst ey
  cases (show u = Value.ref b from ry)
  have g4 : s4.heap.get? s.heap.objs.size = some o := (I4.hok _ _ hp4).1
  have dd4 : s4.heap.DictOfH (tupleKind (leafKind X.prog X.w)) s.heap.objs.size qs := ⟨o, es, ep, g4, a2, a3, a4, fun x hx => by
    obtain ⟨k, hk', h1, h2⟩ := hm x hx
    rw [h1, h2]
    exact keyP_of I4.hok (hk4 k hk'), a6⟩
  obtain ⟨w', hw, rw'⟩ := hf ii cc v hv
  refine ⟨dd4.typeIs, wpAny_getItem_heap (tupleKind_room_in1 hu) (keyP_of I4.hok hb) dd4 hw ?_⟩
  exact ⟨v, H4, I4.tok _, rw', q4⟩
/-! ### the same, read -/
abbrev KE3 := Int × Bool × PyData
def PKP (K : Frag) (Hd : Hp) (k : KP) (e : KE3) : Prop := k.i = e.1 ∧ k.c = e.2.1 ∧ Hd k.ad = some (.tup [.int k.i, .bl k.c]) ∧ Dt K Hd k.v e.2.2
theorem PKP.ex {K : Frag} {A B : Hp} {k : KP} {e : KE3} (x : Ex A B) (h : PKP K A k e) : PKP K B k e := ⟨h.1, h.2.1, x _ _ h.2.2.1, dp_ex x _ _ h.2.2.2⟩
inductive PKs (K : Frag) (Hd : Hp) : List KP → List KE3 → Prop
  | nil : PKs K Hd [] []
  | cons {k : KP} {e : KE3} {ks : List KP} {es : List KE3} : PKP K Hd k e → PKs K Hd ks es → PKs K Hd (k :: ks) (e :: es)
theorem PKs.ex {K : Frag} {A B : Hp} {ks : List KP} {es : List KE3} (x : Ex A B) (h : PKs K A ks es) : PKs K B ks es := by
  induction h with
  | nil => exact .nil
  | cons h _ ih => exact .cons (h.ex x) ih
theorem PKs.keys {K : Frag} {A : Hp} {ks : List KP} {es : List KE3} (h : PKs K A ks es) : ks.map KP.key = es.map fun e => keyP e.1 e.2.1 := by
  induction h with
  | nil => rfl
  | cons h _ ih => rw [List.map_cons, List.map_cons, ih]; unfold KP.key; rw [h.1, h.2.1]
theorem PKs.at {K : Frag} {A : Hp} {ks : List KP} {es : List KE3} (h : PKs K A ks es) : ∀ k ∈ ks, A k.ad = some (.tup [.int k.i, .bl k.c]) := by
  induction h with
  | nil => exact fun k hk => nomatch hk
  | cons h _ ih =>
    intro k hk
    rcases List.mem_cons.mp hk with rfl | hk
    · exact h.2.2.1
    · exact ih k hk
def findE (es : List KE3) (i : Int) (c : Bool) : Option PyData := (es.find? fun e => decide (keyP e.1 e.2.1 = keyP i c)).map (·.2.2)
theorem PKs.find {K : Frag} {A : Hp} {ks : List KP} {es : List KE3} (h : PKs K A ks es) {i : Int} {c : Bool} {d : PyData} (hd : findE es i c = some d) : ∃ v, findP ks i c = some v ∧ Dt K A v d := by
  induction h with
  | nil => cases hd
  | @cons k e ks es h _ ih =>
    have ek : k.key = keyP e.1 e.2.1 := by unfold KP.key; rw [h.1, h.2.1]
    by_cases q : keyP e.1 e.2.1 = keyP i c
    · have : findE (e :: es) i c = some e.2.2 := by simp [findE, List.find?_cons, q]
      rw [this] at hd
      cases hd
      exact ⟨k.v, by simp [findP, List.find?_cons, ek, q], h.2.2.2⟩
    · have : findE (e :: es) i c = findE es i c := by simp [findE, List.find?_cons, q]
      rw [this] at hd
      obtain ⟨v, h1, h2⟩ := ih hd
      exact ⟨v, by rw [← h1]; simp [findP, List.find?_cons, ek, q], h2⟩
def PPB (K : Frag) (trs : List (TE × TE)) (σ : L2.St) (B H : Hp) (es : List KE3) : Prop := ∀ H1, Ex H H1 → ∀ Q : List (L2.V × L2.V) → Hp → Prop, (∀ (ks : List KP) H2 Hd, Gr B H1 H2 Hd → PKs K Hd ks es → Q (ks.map fun k => (V.ref k.ad, k.v)) H2) → tPairs trs σ H1 Q
theorem ppb_nil {K : Frag} {σ : L2.St} {B H : Hp} (x : Ex B H) : PPB K [] σ B H [] := fun H1 e Q q => q [] H1 B (Gr.refl (x.trans e)) .nil
theorem ppb_cons {K : Frag} {σ : L2.St} {B H : Hp} {trs : List (TE × TE)} {tv : TE} {i : Int} {c : Bool} {d : PyData} {es : List KE3} (x : Ex B H) (hv : EvB K tv σ B H d) (hr : PPB K trs σ B H es) : PPB K ((tTup (tCons (tC (.int i)) (tCons (tC (.bl c)) tNil)), tv) :: trs) σ B H ((i, c, d) :: es) := fun H1 e Q q => by
  refine ⟨sz_of (show 2 ≤ 100000 by decide), fun p hp => ?_⟩
  have g0 := (Gr.refl (x.trans e)).new (.tup [.int i, .bl c]) hp
  refine hv _ (e.trans g0.ex) _ fun v H2 Hd g dv => hr H2 ((e.trans g0.ex).trans g.ex) _ fun ks H3 Hd2 g2 pr => ?_
  have g1 := g0.join g
  have g3 := g1.join g2
  refine q (⟨p, i, c, v⟩ :: ks) H3 _ g3 (.cons ⟨rfl, rfl, join_l _ _ (join_l _ _ upd_same), dp_ex (Ex.trans (join_r (g0.d2.trans g.ex) g.d2) join_l) _ _ dv⟩ (pr.ex (join_r (g1.d2.trans g2.ex) g2.d2)))
theorem evb_dispP {K : Frag} {σ : L2.St} {B H : Hp} {trs : List (TE × TE)} {ta tb : TE} {i : Int} {c : Bool} {d : PyData} {es : List KE3} (x : Ex B H) (h : PPB K trs σ B H es) (hi : EvB K ta σ B H (.int i)) (hc : EvB K tb σ B H (.bool c)) (hnd : (es.map fun e => keyP e.1 e.2.1).Nodup) (hv : findE es i c = some d) :
    EvB K (tDispP trs (tTup (tCons ta (tCons tb tNil)))) σ B H d := fun H1 e Q q p hp => by
  refine h _ (e.trans (Ex.new hp)) _ fun ks H2 Hd g pr => ⟨g.ex _ _ upd_same, ks, rfl, fun k hk => g.d2 _ _ (pr.at k hk), by rw [pr.keys]; exact hnd, fun φ => ?_⟩
  have x2 : Ex H1 (upd H2 p (.ext φ)) := ex_upd ((Ex.new hp).trans g.ex) hp
  have hBp : Hd p = none := g.fr p (fresh_back (x.trans e) hp) (by rw [upd_same]; exact fun z => nomatch z)
  have d2 : Ex Hd (upd H2 p (.ext φ)) := fun a o ha => by
    have ne : a ≠ p := fun z => by rw [z, hBp] at ha; cases ha
    rw [upd_ne ne]
    exact g.d2 a o ha
  refine hi _ (e.trans x2) _ fun vi H3 _ g3 di => hc _ ((e.trans x2).trans g3.ex) _ fun vc H4 _ g4 dc => ?_
  cases di
  cases dc
  refine ⟨sz_of (show 2 ≤ 100000 by decide), fun r hr => ?_⟩
  obtain ⟨v, h1, h2⟩ := pr.find hv
  have x5 : Ex (upd H2 p (.ext φ)) (upd H4 r (.tup [.int i, .bl c])) := (g3.ex.trans g4.ex).trans (Ex.new hr)
  exact ⟨r, i, c, v, x5 _ _ upd_same, fun k hk => x5 _ _ (d2 _ _ (pr.at k hk)), rfl, upd_same, h1, q v _ Hd ⟨x2.trans x5, g.xd, d2.trans x5, fun a h0 h1 => g.fr a h0 (ne_none (Ex.new hp) h1)⟩ h2⟩
def APs (V : Nv) (m : Bool) (trs : List (TE × TE)) (Γ : List Sl) (S : List Ob) (es : List KE3) : Prop := ∀ σ B H, Ctx V Γ S σ B H → PPB V.K trs σ (sel m B H) H es
section
variable {V : Nv} {m : Bool} {Γ : List Sl} {S : List Ob} {trs : List (TE × TE)} {ta tb tv : TE} {i : Int} {c : Bool} {d : PyData} {es : List KE3}
theorem sel_ex {σ : L2.St} {B H : Hp} (h : Ctx V Γ S σ B H) : Ex (sel m B H) H := by
  cases m with
  | true => exact Ex.refl H
  | false => exact h.sx
theorem aps_nil : APs V m [] Γ S [] := fun σ B H c => ppb_nil (sel_ex c)
theorem aps_cons (hv : AE V m tv Γ S d) (hr : APs V m trs Γ S es) : APs V m ((tTup (tCons (tC (.int i)) (tCons (tC (.bl c)) tNil)), tv) :: trs) Γ S ((i, c, d) :: es) := fun σ B H cx => ppb_cons (sel_ex cx) (hv σ B H cx) (hr σ B H cx)
theorem ae_dispP (h : APs V m trs Γ S es) (hi : AE V m ta Γ S (.int i)) (hc : AE V m tb Γ S (.bool c)) (hnd : (es.map fun e => keyP e.1 e.2.1).Nodup) (hv : findE es i c = some d) : AE V m (tDispP trs (tTup (tCons ta (tCons tb tNil)))) Γ S d := fun σ B H cx => evb_dispP (sel_ex cx) (h σ B H cx) (hi σ B H cx) (hc σ B H cx) hnd hv
end
end LC

namespace LC
open PySem PySem.Spec PyProof.Rows L2 Evl LamX NdefX
/-! ### k24, plain: five cells -/
def s24 (t : Int) (qa qb : Sm) : Nat → Src
  | 0 => [.set "t" (.num t)]
  | 1 => [.set "a" qa]
  | 2 => [.set "b" qb]
  | 3 => [.shw (.ite (.nm "t") (.nm "a") (.nm "b"))]
  | _ => [.set "c" (.ite (.op "same" (.nm "t") (.num 0)) (.op "add" (.nm "b") (.nm "b")) (.num 5)), .shw (.nm "c")]
def run24 (t a b : Int) : Nat → DoneS × Asked
  | 0 => (⟨[], [("t", t)], none⟩, [])
  | 1 => (⟨[], [("a", a)], none⟩, [])
  | 2 => (⟨[], [("b", b)], none⟩, [])
  | 3 => (⟨[if t = 0 then b else a], [], none⟩, [("t", some t), if t = 0 then ("b", some b) else ("a", some a)])
  | _ => (⟨[if t = 0 then (b + b) % 10000 else 5], [("c", if t = 0 then (b + b) % 10000 else 5)], none⟩, ("t", some t) :: if t = 0 then [("b", some b)] else [])
def rec24 (t a b : Int) (qa qb : Sm) (k : Nat) : RecS := ⟨s24 t qa qb k, (run24 t a b k).2, (run24 t a b k).1.shown, (run24 t a b k).1.mine, (run24 t a b k).1.why⟩
def Cl24 (q : Sm) (v : Int) : Prop := ∀ (S : Type) (step : S → Str → Option Int × S) (m : List (Str × Int)) (s : S), worthM step m q s = (.ok v, s)
structure F24 (st : NbS) (t a b : Int) (qa qb : Sm) : Prop where
  S : Sit st
  row : st.row = [0, 1, 2, 3, 4]
  sk : ∀ k, k < 5 → (st.cell k).struck = false
  src : ∀ k, k < 5 → (st.cell k).src = s24 t qa qb k
  ca : Cl24 qa a
  cb : Cl24 qb b
section
variable {st : NbS} {t a b : Int} {qa qb : Sm}
theorem sets24 (k : Nat) : setsOf (s24 t qa qb k) = match k with
    | 0 => ["t"]
    | 1 => ["a"]
    | 2 => ["b"]
    | 3 => []
    | _ => ["c"] := by
  match k with
  | 0 => rfl
  | 1 => rfl
  | 2 => rfl
  | 3 => rfl
  | k + 4 => rfl
theorem F24.setsB (C : F24 st t a b qa qb) {k : Nat} (h : k < 5) (x : Str) : LC.setsB st k x = decide (x ∈ setsOf (s24 t qa qb k)) := by
  unfold LC.setsB
  rw [C.sk k h, C.src k h]
  rfl
theorem F24.ahead (C : F24 st t a b qa qb) {k : Nat} (h : k < 5) : LC.ahead st k = List.range k := by
  unfold LC.ahead
  rw [C.row]
  match k, h with
  | 0, _ => rfl
  | 1, _ => rfl
  | 2, _ => rfl
  | 3, _ => rfl
  | 4, _ => rfl
theorem F24.setter (C : F24 st t a b qa qb) {k : Nat} (h : k < 5) (x : Str) : setterF st k x = (List.range k).foldl (fun acc m => if decide (x ∈ setsOf (s24 t qa qb m)) = true then some m else acc) none := by
  unfold setterF setterL
  rw [C.ahead h]
  have go : ∀ (l : List Nat) (acc : Option Nat), (∀ m ∈ l, m < 5) → l.foldl (fun acc m => if LC.setsB st m x then some m else acc) acc = l.foldl (fun acc m => if decide (x ∈ setsOf (s24 t qa qb m)) = true then some m else acc) acc := by
    intro l
    induction l with
    | nil => exact fun _ _ => rfl
    | cons m l ih =>
      intro acc hl
      rw [List.foldl_cons, List.foldl_cons, C.setsB (hl m (List.mem_cons_self ..))]
      exact ih _ fun m' hm => hl m' (List.mem_cons_of_mem _ hm)
  exact go _ _ fun m hm => by have := List.mem_range.mp hm; omega
theorem F24.t3 (C : F24 st t a b qa qb) : setterF st 3 "t" = some 0 ∧ setterF st 3 "a" = some 1 ∧ setterF st 3 "b" = some 2 := by
  refine ⟨?_, ?_, ?_⟩ <;> rw [C.setter (by decide)] <;> rfl
theorem F24.t4 (C : F24 st t a b qa qb) : setterF st 4 "t" = some 0 ∧ setterF st 4 "b" = some 2 := by
  refine ⟨?_, ?_⟩ <;> rw [C.setter (by decide)] <;> rfl
theorem cl_run {q : Sm} {v : Int} (h : Cl24 q v) (x : Str) (known : Str → Option Int) : runA known [.set x q] = ((⟨[], [(x, v)], none⟩ : DoneS), ([] : Asked)) := by
  have := h Asked (stepA known) [] []
  simp [runA, doneM, this, putP]
theorem lk1 (x : Str) (v : Int) : List.lookup x [(x, v)] = some v := by simp [List.lookup]
theorem F24.pure (C : F24 st t a b qa qb) : ∀ k, k < 5 → pureRun st k = run24 t a b k := by
  have nd := C.S.G.nd
  have h0 : pureRun st 0 = run24 t a b 0 := by unfold pureRun; rw [C.src 0 (by decide)]; exact cl_run (fun _ _ _ _ => rfl) "t" _
  have h1 : pureRun st 1 = run24 t a b 1 := by unfold pureRun; rw [C.src 1 (by decide)]; exact cl_run C.ca "a" _
  have h2 : pureRun st 2 = run24 t a b 2 := by unfold pureRun; rw [C.src 2 (by decide)]; exact cl_run C.cb "b" _
  have kn : ∀ {n m : Nat} {x : Str} {v : Int}, setterF st n x = some m → (pureRun st m).1.mine = [(x, v)] → knownAt st n x = some v := fun {n m x v} hs hm => by
    rw [known_setter nd, hs]
    show (pureRec st m).sets.lookup x = some v
    unfold pureRec
    dsimp only
    rw [hm]
    exact lk1 x v
  have k3 : knownAt st 3 "t" = some t ∧ knownAt st 3 "a" = some a ∧ knownAt st 3 "b" = some b := ⟨kn C.t3.1 (by rw [h0]; rfl), kn C.t3.2.1 (by rw [h1]; rfl), kn C.t3.2.2 (by rw [h2]; rfl)⟩
  have k4 : knownAt st 4 "t" = some t ∧ knownAt st 4 "b" = some b := ⟨kn C.t4.1 (by rw [h0]; rfl), kn C.t4.2 (by rw [h2]; rfl)⟩
  have hs : reck "same" t 0 = .ok (if t = 0 then 1 else 0) := by
    unfold reck
    rw [if_neg (by decide +kernel), if_neg (by decide +kernel), if_neg (by decide +kernel), if_pos rfl]
  have ha : reck "add" b b = .ok ((b + b) % 10000) := rfl
  have nat : ¬ Str.ofString "a" = Str.ofString "t" := by decide +kernel
  have nbt : ¬ Str.ofString "b" = Str.ofString "t" := by decide +kernel
  intro k hk
  match k, hk with
  | 0, _ => exact h0
  | 1, _ => exact h1
  | 2, _ => exact h2
  | 3, _ =>
    unfold pureRun
    rw [C.src 3 (by decide)]
    by_cases ht : t = 0
    · subst ht
      simp [runA, s24, doneM, worthM, stepA, noteA, k3, run24, nat, nbt]
    · simp [runA, s24, doneM, worthM, stepA, noteA, k3, ht, run24, nat, nbt]
  | 4, _ =>
    unfold pureRun
    rw [C.src 4 (by decide)]
    by_cases ht : t = 0
    · subst ht
      have hs0 : reck "same" 0 0 = .ok 1 := hs
      simp [runA, s24, doneM, worthM, stepA, noteA, k4, hs0, ha, run24, putP, lk1, nbt]
    · simp [runA, s24, doneM, worthM, stepA, noteA, k4, hs, ht, ha, run24, putP, lk1, nbt]
theorem F24.known (C : F24 st t a b qa qb) : (knownAt st 3 "t" = some t ∧ knownAt st 3 "a" = some a ∧ knownAt st 3 "b" = some b) ∧ knownAt st 4 "t" = some t ∧ knownAt st 4 "b" = some b := by
  have nd := C.S.G.nd
  have kn : ∀ {n m : Nat} {x : Str} {v : Int}, setterF st n x = some m → (pureRun st m).1.mine = [(x, v)] → knownAt st n x = some v := fun {n m x v} hs hm => by
    rw [known_setter nd, hs]
    show (pureRec st m).sets.lookup x = some v
    unfold pureRec
    dsimp only
    rw [hm]
    exact lk1 x v
  exact ⟨⟨kn C.t3.1 (by rw [C.pure 0 (by decide)]; rfl), kn C.t3.2.1 (by rw [C.pure 1 (by decide)]; rfl), kn C.t3.2.2 (by rw [C.pure 2 (by decide)]; rfl)⟩, kn C.t4.1 (by rw [C.pure 0 (by decide)]; rfl), kn C.t4.2 (by rw [C.pure 2 (by decide)]; rfl)⟩
theorem F24.recd (C : F24 st t a b qa qb) {k : Nat} (h : k < 5) : pureRec st k = rec24 t a b qa qb k := by
  unfold pureRec rec24
  rw [C.pure k h, C.src k h]
theorem F24.mix (C : F24 st t a b qa qb) (g : List Nat) : F24 (LC.mix st g) t a b qa qb :=
  ⟨C.S.mix g, C.row, fun k h => by rw [mix_struck]; exact C.sk k h, fun k h => by rw [mix_src]; exact C.src k h, C.ca, C.cb⟩
theorem F24.live (C : F24 st t a b qa qb) : liveL st = [0, 1, 2, 3, 4] := by
  unfold liveL
  rw [C.row]
  exact List.filter_eq_self.mpr fun k hk => by rw [C.sk k (by simp at hk; omega)]; rfl
theorem F24.vis (C : F24 st t a b qa qb) : visitAll st st.row [] = [0, 1, 2, 3, 4] := by rw [visitAll_live C.S.G.nd, C.live]
variable {a1 b1 : Int} {qa1 qb1 : Sm}
theorem F24.leaf (C : F24 st t a b qa qb) {n : Nat} (hr : (st.cell n).recd = some (rec24 t a1 b1 qa1 qb1 n)) (hn : n < 3) {g : List Nat} (hg : n ∉ g) (k : Nat) : visit st (k + 1) n g = g ++ [n] := by
  have has : (rec24 t a1 b1 qa1 qb1 n).asked = [] := by
    match n, hn with
    | 0, _ => rfl
    | 1, _ => rfl
    | 2, _ => rfl
  have hs : (standB st (visName st k n) n g).2 = g := by
    unfold standB
    rw [hr]
    dsimp only
    split
    · rw [has]; rfl
    · rfl
  have hd : (doneM (stepG (visName st k n) (knownAt st n)) (st.cell n).src [] [] ((standB st (visName st k n) n g).2, [])).2.1 = g := by
    rw [hs, C.src n (by omega)]
    match n, hn with
    | 0, _ => rfl
    | 1, _ =>
      have := C.ca _ (stepG (visName st k 1) (knownAt st 1)) [] (g, [])
      simp [s24, doneM, this]
    | 2, _ =>
      have := C.cb _ (stepG (visName st k 2) (knownAt st 2)) [] (g, [])
      simp [s24, doneM, this]
  rw [visit_succ, if_neg hg, hd, hs]
  split <;> rfl
/-- records of some values each -/
def Rc24 (st : NbS) (t : Int) (va vb : Nat → Int) (ka kb : Nat → Sm) : Prop := ∀ k, k < 5 → (st.cell k).recd = some (rec24 t (va k) (vb k) (ka k) (kb k) k)
variable {va vb : Nat → Int} {ka kb : Nat → Sm}
theorem F24.name (C : F24 st t a b qa qb) (R : Rc24 st t va vb ka kb) {n m : Nat} {x : Str} (hs : setterF st n x = some m) (hm : m < 3) (k : Nat) (g : List Nat) : visName st (k + 1) n x g = if m ∈ g then g else g ++ [m] := by
  unfold visName
  rw [hs]
  show visit st (k + 1) m g = _
  split
  · rename_i h
    rw [visit_succ, if_pos h]
  · rename_i h
    exact C.leaf (R m (by omega)) hm h k
theorem F24.vis3 (C : F24 st t a b qa qb) (R : Rc24 st t va vb ka kb) (k : Nat) : visit st (k + 2) 3 [] = [0, if t = 0 then 2 else 1, 3] := by
  obtain ⟨⟨k1, k2, k3⟩, _, _⟩ := C.known
  have n1 := C.name R C.t3.1 (by decide) k
  have n2 := C.name R C.t3.2.1 (by decide) k
  have n3 := C.name R C.t3.2.2 (by decide) k
  have e3 : s24 t qa qb 3 = s24 t (ka 3) (kb 3) 3 := rfl
  by_cases ht : t = 0
  · have hs : (standB st (visName st (k + 1) 3) 3 []).2 = [0, 2] := by
      unfold standB
      rw [R 3 (by decide), C.src 3 (by decide)]
      dsimp only
      rw [if_pos (show (rec24 t (va 3) (vb 3) (ka 3) (kb 3) 3).lines = s24 t qa qb 3 from rfl)]
      show (standGo _ _ (("t", some t) :: [if t = 0 then ("b", some (vb 3)) else ("a", some (va 3))]) []).2 = _
      rw [if_pos ht]
      unfold standGo
      rw [if_pos k1, n1]
      unfold standGo
      rw [n3]
      split <;> rfl
    have hd : (doneM (stepG (visName st (k + 1) 3) (knownAt st 3)) (st.cell 3).src [] [] ((standB st (visName st (k + 1) 3) 3 []).2, [])).2.1 = [0, 2] := by
      rw [hs, C.src 3 (by decide)]
      subst ht
      simp [s24, doneM, worthM, stepG, noteA, k1, k2, k3, n1, n2, n3]
    rw [visit_succ, if_neg (by simp), hd, hs, if_pos ht]
    split <;> rfl
  · have hs : (standB st (visName st (k + 1) 3) 3 []).2 = [0, 1] := by
      unfold standB
      rw [R 3 (by decide), C.src 3 (by decide)]
      dsimp only
      rw [if_pos (show (rec24 t (va 3) (vb 3) (ka 3) (kb 3) 3).lines = s24 t qa qb 3 from rfl)]
      show (standGo _ _ (("t", some t) :: [if t = 0 then ("b", some (vb 3)) else ("a", some (va 3))]) []).2 = _
      rw [if_neg ht]
      unfold standGo
      rw [if_pos k1, n1]
      unfold standGo
      rw [n2]
      split <;> rfl
    have hd : (doneM (stepG (visName st (k + 1) 3) (knownAt st 3)) (st.cell 3).src [] [] ((standB st (visName st (k + 1) 3) 3 []).2, [])).2.1 = [0, 1] := by
      rw [hs, C.src 3 (by decide)]
      simp [s24, doneM, worthM, stepG, noteA, k1, k2, k3, n1, n2, n3, ht]
    rw [visit_succ, if_neg (by simp), hd, hs, if_neg ht]
    split <;> rfl
theorem F24.vis4 (C : F24 st t a b qa qb) (R : Rc24 st t va vb ka kb) (k : Nat) : visit st (k + 2) 4 [] = if t = 0 then [0, 2, 4] else [0, 4] := by
  obtain ⟨_, k1, k3⟩ := C.known
  have n1 := C.name R C.t4.1 (by decide) k
  have n3 := C.name R C.t4.2 (by decide) k
  have hq : reck "same" t 0 = .ok (if t = 0 then 1 else 0) := by
    unfold reck
    rw [if_neg (by decide +kernel), if_neg (by decide +kernel), if_neg (by decide +kernel), if_pos rfl]
  have ha : reck "add" b b = .ok ((b + b) % 10000) := rfl
  by_cases ht : t = 0
  · have hs : (standB st (visName st (k + 1) 4) 4 []).2 = [0, 2] := by
      unfold standB
      rw [R 4 (by decide), C.src 4 (by decide)]
      dsimp only
      rw [if_pos (show (rec24 t (va 4) (vb 4) (ka 4) (kb 4) 4).lines = s24 t qa qb 4 from rfl)]
      show (standGo _ _ (("t", some t) :: if t = 0 then [("b", some (vb 4))] else []) []).2 = _
      rw [if_pos ht]
      unfold standGo
      rw [if_pos k1, n1]
      unfold standGo
      rw [n3]
      split <;> rfl
    have hd : (doneM (stepG (visName st (k + 1) 4) (knownAt st 4)) (st.cell 4).src [] [] ((standB st (visName st (k + 1) 4) 4 []).2, [])).2.1 = [0, 2] := by
      rw [hs, C.src 4 (by decide)]
      subst ht
      have hs0 : reck "same" 0 0 = .ok 1 := hq
      simp [s24, doneM, worthM, stepG, noteA, k1, k3, n1, n3, hs0, ha, putP, lk1]
    rw [visit_succ, if_neg (by simp), hd, hs, if_pos ht]
    split <;> rfl
  · have hs : (standB st (visName st (k + 1) 4) 4 []).2 = [0] := by
      unfold standB
      rw [R 4 (by decide), C.src 4 (by decide)]
      dsimp only
      rw [if_pos (show (rec24 t (va 4) (vb 4) (ka 4) (kb 4) 4).lines = s24 t qa qb 4 from rfl)]
      show (standGo _ _ (("t", some t) :: if t = 0 then [("b", some (vb 4))] else []) []).2 = _
      rw [if_neg ht]
      unfold standGo
      rw [if_pos k1, n1]
      rfl
    have hd : (doneM (stepG (visName st (k + 1) 4) (knownAt st 4)) (st.cell 4).src [] [] ((standB st (visName st (k + 1) 4) 4 []).2, [])).2.1 = [0] := by
      rw [hs, C.src 4 (by decide)]
      simp [s24, doneM, worthM, stepG, noteA, k1, k3, n1, n3, hq, ha, ht, putP, lk1]
    rw [visit_succ, if_neg (by simp), hd, hs, if_neg ht]
    split <;> rfl
def st24 (t a b : Int) (qa qb : Sm) (a1 b1 : Int) (qa1 qb1 : Sm) : Nat → Bool
  | 0 => true
  | 1 => decide (qa1 = qa)
  | 2 => decide (qb1 = qb)
  | 3 => if t = 0 then decide (b = b1) else decide (a = a1)
  | _ => if t = 0 then decide (b = b1) else true
theorem F24.stands (C : F24 st t a b qa qb) (R : Rc24 st t va vb ka kb) {k : Nat} (h : k < 5) : standsB st k = st24 t a b qa qb (va k) (vb k) (ka k) (kb k) k := by
  obtain ⟨⟨k1, k2, k3⟩, k4, k5⟩ := C.known
  unfold standsB
  rw [R k h, C.src k h]
  match k, h with
  | 0, _ => simp [rec24, s24, run24, st24]
  | 1, _ => simp [rec24, s24, run24, st24]
  | 2, _ => simp [rec24, s24, run24, st24]
  | 3, _ =>
    by_cases ht : t = 0
    · subst ht; simp [rec24, s24, run24, st24, k1, k3]
    · simp [rec24, s24, run24, st24, k1, k2, ht]
  | 4, _ =>
    by_cases ht : t = 0
    · subst ht; simp [rec24, s24, run24, st24, k4, k5]
    · simp [rec24, s24, run24, st24, k4, ht]
/-- what holds, all records being of the same values -/
theorem F24.holds (C : F24 st t a b qa qb) (R : Rc24 st t (fun _ => a1) (fun _ => b1) (fun _ => qa1) (fun _ => qb1)) (f : List Nat) {k : Nat} (h : k < 5) : holdsB st k f = match k with
    | 0 => true
    | 1 => decide (qa1 = qa)
    | 2 => decide (qb1 = qb)
    | 3 => decide (0 ∈ f) && decide ((if t = 0 then 2 else 1) ∈ f)
    | _ => decide (0 ∈ f) && (!decide (t = 0) || decide (2 ∈ f)) := by
  obtain ⟨t1, t2, t3⟩ := C.t3
  obtain ⟨t4, t5⟩ := C.t4
  have l0 : lastT st (some 0) "t" = some t := by
    show (match (st.cell 0).recd with | none => none | some r => r.sets.lookup ("t" : Str)) = _
    rw [R 0 (by decide)]
    exact lk1 _ _
  have l1 : lastT st (some 1) "a" = some a1 := by
    show (match (st.cell 1).recd with | none => none | some r => r.sets.lookup ("a" : Str)) = _
    rw [R 1 (by decide)]
    exact lk1 _ _
  have l2 : lastT st (some 2) "b" = some b1 := by
    show (match (st.cell 2).recd with | none => none | some r => r.sets.lookup ("b" : Str)) = _
    rw [R 2 (by decide)]
    exact lk1 _ _
  unfold holdsB
  rw [R k h, C.src k h]
  match k, h with
  | 0, _ => simp [rec24, s24, run24]
  | 1, _ => simp [rec24, s24, run24]
  | 2, _ => simp [rec24, s24, run24]
  | 3, _ =>
    by_cases ht : t = 0
    · subst ht; simp [rec24, s24, run24, okAsk, t1, t3, l0, l2]
    · simp [rec24, s24, run24, okAsk, t1, t2, l0, l1, ht]
  | 4, _ =>
    by_cases ht : t = 0
    · subst ht; simp [rec24, s24, run24, okAsk, t4, t5, l0, l2]
    · simp [rec24, s24, run24, okAsk, t4, l0, ht]
theorem F24.leans (C : F24 st t a b qa qb) (ha : qa.names = []) (hb : qb.names = []) : (∀ k, k < 3 → leansL st k = []) ∧ leansL st 3 = [0, 1, 2] ∧ leansL st 4 = [0, 2] := by
  have so : ∀ l : List Nat, l.Pairwise (fun a b => decide (a ≤ b) = true) → l.mergeSort (fun a b => decide (a ≤ b)) = l := fun l h => List.mergeSort_of_pairwise h
  refine ⟨fun k h => ?_, ?_, ?_⟩
  · unfold leansL
    rw [C.src k (by omega)]
    have e : readsOf (s24 t qa qb k) = [] := by
      match k, h with
      | 0, _ => rfl
      | 1, _ => simp [readsOf, s24, readsGo, Rw.sum, ha]
      | 2, _ => simp [readsOf, s24, readsGo, Rw.sum, hb]
    rw [e]
    exact so _ .nil
  · unfold leansL
    rw [C.src 3 (by decide)]
    have e : readsOf (s24 t qa qb 3) = [("t" : Str), "a", "b"] := by show readsOf (s24 0 (.num 0) (.num 0) 3) = _; decide +kernel
    rw [e]
    simp only [List.filterMap_cons, C.t3.1, C.t3.2.1, C.t3.2.2, List.filterMap_nil]
    exact so _ (by decide)
  · unfold leansL
    rw [C.src 4 (by decide)]
    have e : readsOf (s24 t qa qb 4) = [("t" : Str), "b"] := by show readsOf (s24 0 (.num 0) (.num 0) 4) = _; decide +kernel
    rw [e]
    simp only [List.filterMap_cons, C.t4.1, C.t4.2, List.filterMap_nil]
    exact so _ (by decide)
theorem F24.stirred (C : F24 st t a b qa qb) (ha : qa.names = []) (hb : qb.names = []) {w : Nat} (hw : w = 1 ∨ w = 2) : stirredL st w = [w, 3] ++ if w = 2 then [4] else [] := by
  obtain ⟨l, l3, l4⟩ := C.leans ha hb
  have need : ∀ m, m < 5 → needF st m = if m = 3 then [3, 0, 1, 2] else if m = 4 then [4, 0, 2] else [m] := by
    intro m hm
    unfold needF
    rw [C.live]
    show needGo st (needGo st (needGo st (needGo st (needGo st [m] 4) 3) 2) 1) 0 = _
    have g0 : ∀ f, needGo st f 0 = f := fun f => by unfold needGo; rw [l 0 (by decide)]; split <;> simp
    have g1 : ∀ f, needGo st f 1 = f := fun f => by unfold needGo; rw [l 1 (by decide)]; split <;> simp
    have g2 : ∀ f, needGo st f 2 = f := fun f => by unfold needGo; rw [l 2 (by decide)]; split <;> simp
    rw [g0, g1, g2]
    unfold needGo
    rw [l3, l4]
    match m, hm with
    | 0, _ => rfl
    | 1, _ => rfl
    | 2, _ => rfl
    | 3, _ => rfl
    | 4, _ => rfl
  unfold stirredL
  rw [C.live]
  have nd : ∀ m, m < 5 → neededL st m = [0, 1, 2, 3, 4].filter fun k => decide (k ∈ if m = 3 then [3, 0, 1, 2] else if m = 4 then [4, 0, 2] else [m]) := fun m hm => by unfold neededL; rw [C.row, need m hm]
  have : ∀ m ∈ [0, 1, 2, 3, 4], decide (w ∈ neededL st m) = decide (w ∈ [0, 1, 2, 3, 4].filter fun k => decide (k ∈ if m = 3 then [3, 0, 1, 2] else if m = 4 then [4, 0, 2] else [m])) := fun m hm => by rw [nd m (by simp at hm; omega)]
  rw [List.filter_congr this]
  rcases hw with rfl | rfl <;> rfl
end
def qN (x : Int) : Sm := .op "add" (.num x) (.num 0)
theorem cl_num (v : Int) : Cl24 (.num v) v := fun _ _ _ _ => rfl
theorem cl_qN {x : Int} (h : InR x) : Cl24 (qN x) x := fun S step m s => by
  have h1 : reck "add" x 0 = .ok x := by
    show Except.ok ((x + 0) % 10000) = _
    rw [Int.add_zero, Int.emod_eq_of_lt h.1 (by have := h.2; omega)]
  simp [qN, worthM, h1]
def a3 (w : Nat) (x a0 : Int) : Int := if w = 1 then x else a0
def b3 (w : Nat) (x b0 : Int) : Int := if w = 1 then b0 else x
def qa3 (w : Nat) (x a0 : Int) : Sm := if w = 1 then qN x else .num a0
def qb3 (w : Nat) (x b0 : Int) : Sm := if w = 1 then .num b0 else qN x
def asks24 (w : Nat) (t : Int) : List Nat := if w = 1 then (if t = 0 then [] else [3]) else if t = 0 then [3, 4] else []
def stale24 (w : Nat) (t : Int) (n : Nat) : Bool := decide (n = w) || decide (n ∈ asks24 w t)
section
variable {st : NbS} {t x a0 b0 : Int} {w : Nat}
abbrev F3 (st : NbS) (t x a0 b0 : Int) (w : Nat) : Prop := F24 st t (a3 w x a0) (b3 w x b0) (qa3 w x a0) (qb3 w x b0)
abbrev RcK (st : NbS) (t a b : Int) (qa qb : Sm) : Prop := Rc24 st t (fun _ => a) (fun _ => b) (fun _ => qa) (fun _ => qb)
theorem fresh3 (C : F3 st t x a0 b0 w) (R : RcK st t a0 b0 (.num a0) (.num b0)) (hw : w = 1 ∨ w = 2) : freshL st = [0, 1, 2, 3, 4].filter fun n => !stale24 w t n := by
  have h := fresh_by C.S.G.nd (fun n => !stale24 w t n) fun n hn => ?_
  · rw [C.row] at h
    exact h
  · rw [C.row] at hn ⊢
    have h5 : n < 5 := by simp at hn; omega
    rw [C.sk n h5, C.holds R _ h5]
    rcases hw with rfl | rfl <;> by_cases ht : t = 0 <;> (match n, h5 with
      | 0, _ => simp [stale24, asks24, ht]
      | 1, _ => simp [stale24, asks24, ht, qa3, qN]
      | 2, _ => simp [stale24, asks24, ht, qb3, qN]
      | 3, _ => simp [stale24, asks24, ht]
      | 4, _ => simp [stale24, asks24, ht])
theorem state24 (C : F3 st t x a0 b0 w) {a b : Int} {qa qb : Sm} (R : RcK st t a b qa qb) {n : Nat} (h : n < 5) : decide (stateW st n = "stale") = !decide (n ∈ freshL st) := by
  unfold stateW
  rw [C.sk n h, if_neg (fun z => nomatch z), if_neg (by rw [R n h]; exact fun z => nomatch z)]
  split
  · rename_i hf
    rw [decide_eq_true hf]
    decide +kernel
  · rename_i hf
    rw [decide_eq_false hf]
    decide +kernel
theorem stale3 (C : F3 st t x a0 b0 w) (R : RcK st t a0 b0 (.num a0) (.num b0)) (hw : w = 1 ∨ w = 2) : (List.range 5).filter (fun n => decide (stateW st n = "stale")) = w :: asks24 w t := by
  have e : ∀ n ∈ List.range 5, decide (stateW st n = "stale") = stale24 w t n := fun n hn => by
    have h5 := List.mem_range.mp hn
    rw [state24 C R h5, fresh3 C R hw]
    have : (n ∈ [0, 1, 2, 3, 4].filter fun n => !stale24 w t n) ↔ stale24 w t n = false := by
      rw [List.mem_filter]
      constructor
      · intro z; simpa using z.2
      · intro z; exact ⟨by simp; omega, by rw [z]; rfl⟩
    rw [show decide (n ∈ [0, 1, 2, 3, 4].filter fun n => !stale24 w t n) = decide (stale24 w t n = false) from decide_eq_decide.mpr this]
    simp
  rw [List.filter_congr e]
  rcases hw with rfl | rfl <;> by_cases ht : t = 0 <;> simp [stale24, asks24, ht, List.range_succ]
def vis3L (t : Int) : List Nat := [0, if t = 0 then 2 else 1, 3]
def vis4L (t : Int) : List Nat := if t = 0 then [0, 2, 4] else [0, 4]
/-- a run of what all is asked for -/
theorem RcK.run {a b : Int} {qa qb : Sm} (C : F3 st t x a0 b0 w) {va vb : Nat → Int} {ka kb : Nat → Sm} (R : Rc24 st t va vb ka kb) (g : List Nat) : Rc24 (mix st g) t (fun k => if k ∈ g then a3 w x a0 else va k) (fun k => if k ∈ g then b3 w x b0 else vb k) (fun k => if k ∈ g then qa3 w x a0 else ka k) (fun k => if k ∈ g then qb3 w x b0 else kb k) := fun k h => by
  by_cases hg : k ∈ g
  · rw [mix_rec_in hg, C.recd h]
    simp only [if_pos hg]
  · rw [mix_rec_out hg, R k h]
    simp only [if_neg hg]
theorem same24 {a b a' b' : Int} {qa qb qa' qb' : Sm} {k : Nat} (h : k < 5) (h1 : k = 1 → a = a' ∧ qa = qa') (h2 : k = 2 → b = b' ∧ qb = qb') (h3 : k = 3 → if t = 0 then b = b' else a = a') (h4 : k = 4 → t = 0 → b = b') : rec24 t a b qa qb k = rec24 t a' b' qa' qb' k := by
  match k, h with
  | 0, _ => rfl
  | 1, _ => obtain ⟨rfl, rfl⟩ := h1 rfl; rfl
  | 2, _ => obtain ⟨rfl, rfl⟩ := h2 rfl; rfl
  | 3, _ =>
    have := h3 rfl
    by_cases ht : t = 0
    · rw [if_pos ht] at this; subst this; simp [rec24, s24, run24, ht]
    · rw [if_neg ht] at this; subst this; simp [rec24, s24, run24, ht]
  | 4, _ =>
    by_cases ht : t = 0
    · have := h4 rfl ht; subst this; simp [rec24, s24, run24, ht]
    · simp [rec24, s24, run24, ht]
def due24 (w : Nat) (t : Int) (ch : Bool) : List Nat := (if asks24 w t = [] then [] else [w]) ++ if ch = true then asks24 w t else []
structure End24 (st : NbS) (t x a0 b0 : Int) (w : Nat) : Prop where
  v3 : visit st 31 3 [] = vis3L t
  C4 : F3 (mix st (vis3L t)) t x a0 b0 w
  v4 : visit (mix st (vis3L t)) 31 4 [] = vis4L t
  C5 : F3 (mix (mix st (vis3L t)) (vis4L t)) t x a0 b0 w
  ran : ranOf st (vis3L t) ++ ranOf (mix st (vis3L t)) (vis4L t) = due24 w t (decide (x ≠ if w = 1 then a0 else b0))
  stale : (List.range 5).filter (fun n => decide (stateW (mix (mix st (vis3L t)) (vis4L t)) n = "stale")) = if asks24 w t = [] then [w] else []
  ran5 : ranOf (mix (mix st (vis3L t)) (vis4L t)) [0, 1, 2, 3, 4] = if asks24 w t = [] then [w] else []
theorem end24 (C : F3 st t x a0 b0 w) (R : RcK st t a0 b0 (.num a0) (.num b0)) (hw : w = 1 ∨ w = 2) : End24 st t x a0 b0 w := by
  have v3 := C.vis3 R 29
  have C4 := C.mix (vis3L t)
  have R4 := RcK.run (a := 0) (b := 0) (qa := .num 0) (qb := .num 0) C R (vis3L t)
  have v4 := C4.vis4 R4 29
  have C5 := C4.mix (vis4L t)
  have R5 := RcK.run (a := 0) (b := 0) (qa := .num 0) (qb := .num 0) C4 R4 (vis4L t)
  have ran : ranOf st (vis3L t) ++ ranOf (mix st (vis3L t)) (vis4L t) = due24 w t (decide (x ≠ if w = 1 then a0 else b0)) := by
    unfold ranOf
    have e1 : ∀ n ∈ vis3L t, (!standsB st n) = !st24 t (a3 w x a0) (b3 w x b0) (qa3 w x a0) (qb3 w x b0) a0 b0 (.num a0) (.num b0) n := fun n hn => by
      rw [C.stands R (by unfold vis3L at hn; split at hn <;> simp at hn <;> omega)]
    have e2 : ∀ n ∈ vis4L t, (!standsB (mix st (vis3L t)) n) = !st24 t (a3 w x a0) (b3 w x b0) (qa3 w x a0) (qb3 w x b0) (if n ∈ vis3L t then a3 w x a0 else a0) (if n ∈ vis3L t then b3 w x b0 else b0) (if n ∈ vis3L t then qa3 w x a0 else .num a0) (if n ∈ vis3L t then qb3 w x b0 else .num b0) n := fun n hn => by
      rw [C4.stands R4 (by unfold vis4L at hn; split at hn <;> simp at hn <;> omega)]
    rw [List.filter_congr e1, List.filter_congr e2]
    rcases hw with rfl | rfl <;> by_cases ht : t = 0
    · simp [vis3L, vis4L, ht, st24, a3, b3, qa3, qb3, due24, asks24]
    · by_cases hx : x = a0 <;> simp [vis3L, vis4L, ht, hx, st24, a3, b3, qa3, qb3, due24, asks24, qN]
    · by_cases hx : x = b0 <;> simp [vis3L, vis4L, ht, hx, st24, a3, b3, qa3, qb3, due24, asks24, qN]
    · simp [vis3L, vis4L, ht, st24, a3, b3, qa3, qb3, due24, asks24]
  by_cases has : asks24 w t = []
  · have R5' : RcK (mix (mix st (vis3L t)) (vis4L t)) t a0 b0 (.num a0) (.num b0) := fun k h => by
      rw [R5 k h]
      refine congrArg some (same24 h (fun z => ?_) (fun z => ?_) (fun z => ?_) fun z zt => ?_) <;> subst z
      case refine_4 => rcases hw with rfl | rfl <;> simp [asks24, zt] at has <;> simp [vis3L, vis4L, zt, a3, b3, qa3, qb3]
      all_goals rcases hw with rfl | rfl <;> by_cases ht : t = 0 <;> simp [asks24, ht] at has <;> simp [vis3L, vis4L, ht, a3, b3, qa3, qb3]
    refine ⟨v3, C4, v4, C5, ran, ?_, ?_⟩
    · rw [stale3 C5 R5' hw, has, if_pos rfl]
    · unfold ranOf
      have e1 : ∀ n ∈ [0, 1, 2, 3, 4], (!standsB (mix (mix st (vis3L t)) (vis4L t)) n) = !st24 t (a3 w x a0) (b3 w x b0) (qa3 w x a0) (qb3 w x b0) a0 b0 (.num a0) (.num b0) n := fun n hn => by
        rw [C5.stands R5' (by simp at hn; omega)]
      rw [List.filter_congr e1, if_pos has]
      rcases hw with rfl | rfl <;> by_cases ht : t = 0 <;> simp [asks24, ht] at has <;> simp [ht, st24, a3, b3, qa3, qb3, qN]
  · have R5' : RcK (mix (mix st (vis3L t)) (vis4L t)) t (a3 w x a0) (b3 w x b0) (qa3 w x a0) (qb3 w x b0) := fun k h => by
      rw [R5 k h]
      refine congrArg some (same24 h (fun z => ?_) (fun z => ?_) (fun z => ?_) fun z zt => ?_) <;> subst z
      case refine_4 => rcases hw with rfl | rfl <;> simp [asks24, zt] at has <;> simp [vis3L, vis4L, zt, a3, b3, qa3, qb3]
      all_goals rcases hw with rfl | rfl <;> by_cases ht : t = 0 <;> simp [asks24, ht] at has <;> simp [vis3L, vis4L, ht, a3, b3, qa3, qb3]
    have fr : freshL (mix (mix st (vis3L t)) (vis4L t)) = [0, 1, 2, 3, 4] := by
      rw [fresh_all C5.S.G.nd fun n hn => ?_, C5.live]
      rw [C5.live] at hn
      have h5 : n < 5 := by simp at hn; omega
      rw [R5' n h5, C5.recd h5]
    refine ⟨v3, C4, v4, C5, ran, ?_, ?_⟩
    · rw [if_neg has]
      refine List.filter_eq_nil_iff.mpr fun n hn => ?_
      have h5 := List.mem_range.mp hn
      rw [state24 C5 R5' h5, fr, decide_eq_true (show n ∈ [0, 1, 2, 3, 4] by simp; omega)]
      decide
    · rw [if_neg has]
      unfold ranOf
      refine List.filter_eq_nil_iff.mpr fun n hn => ?_
      have h5 : n < 5 := by simp at hn; omega
      rw [C5.stands R5' h5]
      match n, h5 with
      | 0, _ => simp [st24]
      | 1, _ => simp [st24]
      | 2, _ => simp [st24]
      | 3, _ => simp [st24]
      | 4, _ => simp [st24]
end
theorem rcd_sortL {K : Frag} {ns : List Int} (hl : ns.length < 64) : RcD K (rSorted K) [.list (ns.map PyData.int)] (.list ((sortL ns).map PyData.int)) := fun vs H1 A e hv Q q => by
  obtain ⟨v, rfl, hd⟩ := dts1 hv
  obtain ⟨a, xs, rfl, hs, hall⟩ := dp_lst hd
  have ex : xs = ns.map V.int := ints_inv hall
  subst ex
  refine ⟨a, ns, rfl, sq_of (e _ _ hs), hl, fun ns' p hp pw hn => ?_⟩
  rw [sortL_eq hp pw]
  exact q _ _ _ ((Gr.base e (Ex.refl _)).new _ hn) (.lst upd_same (dt_ints _))
theorem ag_threeL {V : Nv} {Γ : List Sl} {S : List Ob} {i j l : Nat} {d e f : PyData} : AG V (gLst V.K 3 (gCons (gName i) (gCons (gName j) (gCons (gName l) gNil)))) Γ S (.list [d, e, f]) (((Γ.set i (.dat d)).set j (.dat e)).set l (.dat f)) := fun σ B H v c hd Q k => by
  obtain ⟨p, xs, rfl, hs, hall⟩ := dp_lst hd
  obtain ⟨x, y, w, rfl, ha, hb, hc⟩ := dts3 hall
  exact ⟨p, [x, y, w], rfl, sq_of (c.x _ _ hs), rfl, x, [y, w], rfl, y, [w], rfl, w, [], rfl, rfl, k _ (((c.dat ha).dat hb).dat hc)⟩
/-! ### the cells put, and one changed -/
structure I24 (st : NbS) (s : Nat → Src) (i : Nat) : Prop where
  G : NbG st
  row : st.row = List.range i
  af : st.after = i
  cell : ∀ k, k < i → st.cell k = newCell (s k)
theorem I24.st0 (s : Nat → Src) : I24 st0 s 0 := ⟨NbG.st0, rfl, rfl, fun k h => (Nat.not_lt_zero _ h).elim⟩
theorem I24.put {st : NbS} {s : Nat → Src} {i : Nat} (I : I24 st s i) (hi : i < 30) (h : goodS (s i) = true) : I24 (putS st i (s i)) s (i + 1) := by
  refine ⟨I.G.put h (by rw [I.row, List.length_range]; exact hi) (by rw [I.af]; omega), ?_, ?_, fun k hk => ?_⟩
  · show st.row.take i ++ [st.after] ++ st.row.drop i = _
    rw [I.row, I.af, List.take_of_length_le (by rw [List.length_range]; exact Nat.le_refl _), List.drop_eq_nil_of_le (by rw [List.length_range]; exact Nat.le_refl _), List.append_nil, List.range_succ]
  · show st.after + 1 = _
    rw [I.af]
  · show (if k = st.after then newCell (s i) else st.cell k) = _
    rw [I.af]
    split
    · rename_i e; rw [e]
    · exact I.cell k (by omega)
theorem good24 {t : Int} {qa qb : Sm} (ht : InR t) (ha : qa.good = true) (hb : qb.good = true) (da : qa.depth ≤ 6) (db : qb.depth ≤ 6) (k : Nat) : goodS (s24 t qa qb k) = true := by
  have n1 : nameS "t" = true := by decide +kernel
  have n2 : nameS "a" = true := by decide +kernel
  have n3 : nameS "b" = true := by decide +kernel
  have n4 : nameS "c" = true := by decide +kernel
  have w1 : ("same" : Str) ∈ wordsS := by decide +kernel
  have w2 : ("add" : Str) ∈ wordsS := by decide +kernel
  have := ht.1
  have := ht.2
  match k with
  | 0 => simp [s24, goodS, Rw.good, Sm.good, Sm.depth, n1]; omega
  | 1 => simp [s24, goodS, Rw.good, ha, da, n2]
  | 2 => simp [s24, goodS, Rw.good, hb, db, n3]
  | 3 => simp [s24, goodS, Rw.good, Sm.good, Sm.depth, n1, n2, n3]
  | k + 4 => simp [s24, goodS, Rw.good, Sm.good, Sm.depth, n1, n3, n4, w1, w2]
theorem num_good {v : Int} (h : InR v) : (Sm.num v).good = true := by
  have := h.1
  have := h.2
  simp [Sm.good]
  omega
theorem qN_good {v : Int} (h : InR v) : (qN v).good = true := by
  have := h.1
  have := h.2
  have w2 : ("add" : Str) ∈ wordsS := by decide +kernel
  simp [qN, Sm.good, w2]
  omega
theorem I24.f {st : NbS} {t a0 b0 : Int} (I : I24 st (s24 t (.num a0) (.num b0)) 5) : F24 st t a0 b0 (.num a0) (.num b0) :=
  ⟨⟨I.G, fun n hn r hr => by
    rw [I.cell n (by rw [I.row] at hn; exact List.mem_range.mp hn)] at hr
    cases hr⟩, I.row, fun k h => by rw [I.cell k h]; rfl, fun k h => by rw [I.cell k h]; rfl, cl_num _, cl_num _⟩
theorem I24.ran {st : NbS} {s : Nat → Src} (I : I24 st s 5) : ranOf st [0, 1, 2, 3, 4] = [0, 1, 2, 3, 4] := by
  unfold ranOf
  refine List.filter_eq_self.mpr fun k hk => ?_
  unfold standsB
  rw [I.cell k (by simp at hk; omega)]
  rfl
theorem F24.all {st : NbS} {t a b : Int} {qa qb : Sm} (C : F24 st t a b qa qb) : RcK (LC.mix st [0, 1, 2, 3, 4]) t a b qa qb := fun k h => by
  rw [mix_rec_in (by simp; omega), C.recd h]
theorem view24 {st : NbS} {t a b : Int} {qa qb : Sm} (R : RcK st t a b qa qb) : viewD st 3 = .tuple [.list [.int (if t = 0 then b else a)], .none] ∧ viewD st 4 = .tuple [.list [.int (if t = 0 then (b + b) % 10000 else 5)], .none] := by
  unfold viewD
  rw [R 3 (by decide), R 4 (by decide)]
  exact ⟨rfl, rfl⟩
def ch24 (st : NbS) (t x a0 b0 : Int) (w : Nat) : NbS := setS st w (chC (st.cell w) (s24 t (qa3 w x a0) (qb3 w x b0) w))
theorem F24.ch {st : NbS} {t x a0 b0 : Int} {w : Nat} (C : F24 st t a0 b0 (.num a0) (.num b0)) (hw : w = 1 ∨ w = 2) (hx : InR x) (ht : InR t) (ha : InR a0) (hb : InR b0) (hc : (st.cell w).count < 5000) : F3 (ch24 st t x a0 b0 w) t x a0 b0 w := by
  have g : goodS (s24 t (qa3 w x a0) (qb3 w x b0) w) = true := by
    refine good24 ht ?_ ?_ ?_ ?_ w
    · unfold qa3; split; exact qN_good hx; exact num_good ha
    · unfold qb3; split; exact num_good hb; exact qN_good hx
    · unfold qa3; split <;> simp [qN, Sm.depth]
    · unfold qb3; split <;> simp [qN, Sm.depth]
  have hw5 : w < 5 := by omega
  refine ⟨⟨C.S.G.setS g hc, fun n hn r hr => ?_⟩, C.row, fun k h => ?_, fun k h => ?_, ?_, ?_⟩
  · have hn : n ∈ st.row := hn
    refine C.S.V n hn r ?_
    have hr : (if n = w then chC (st.cell w) _ else st.cell n).recd = some r := hr
    split at hr
    · rename_i e; rw [e]; exact hr
    · exact hr
  · show (if k = w then chC (st.cell w) _ else st.cell k).struck = false
    split
    · exact C.sk w hw5
    · exact C.sk k h
  · show (if k = w then chC (st.cell w) (s24 t (qa3 w x a0) (qb3 w x b0) w) else st.cell k).src = _
    split
    · rename_i e; rw [e]; rfl
    · rename_i e
      rw [C.src k h]
      rcases hw with rfl | rfl
      · match k, h with
        | 0, _ => rfl
        | 1, _ => exact absurd rfl e
        | 2, _ => rfl
        | 3, _ => rfl
        | 4, _ => rfl
      · match k, h with
        | 0, _ => rfl
        | 1, _ => rfl
        | 2, _ => exact absurd rfl e
        | 3, _ => rfl
        | 4, _ => rfl
  · unfold qa3 a3; split; exact cl_qN hx; exact cl_num _
  · unfold qb3 b3; split; exact cl_num _; exact cl_qN hx
theorem RcK.ch {st : NbS} {t x a0 b0 a b : Int} {qa qb : Sm} {w : Nat} (R : RcK st t a b qa qb) (hw : w = 1 ∨ w = 2) : RcK (ch24 st t x a0 b0 w) t a b qa qb := fun k h => by
  show (if k = w then chC (st.cell w) _ else st.cell k).recd = _
  split
  · rename_i e; rw [e]; exact R w (by omega)
  · exact R k h
theorem few24 {st : NbS} {t a b : Int} {qa qb : Sm} (C : F24 st t a b qa qb) (ha : qa.names = []) (hb : qb.names = []) : FewR st := fun n hn => by
  rw [C.row] at hn
  have h5 : n < 5 := by simp at hn; omega
  rw [C.src n h5]
  match n, h5 with
  | 0, _ => simp [readsOf, s24, readsGo, Rw.sum, Sm.names]
  | 1, _ => simp [readsOf, s24, readsGo, Rw.sum, ha]
  | 2, _ => simp [readsOf, s24, readsGo, Rw.sum, hb]
  | 3, _ =>
    have e : readsOf (s24 t qa qb 3) = [("t" : Str), "a", "b"] := by show readsOf (s24 0 (.num 0) (.num 0) 3) = _; decide +kernel
    rw [e]; decide
  | 4, _ =>
    have e : readsOf (s24 t qa qb 4) = [("t" : Str), "b"] := by show readsOf (s24 0 (.num 0) (.num 0) 4) = _; decide +kernel
    rw [e]; decide
theorem eqvS (x y : Str) : PyData.eqv (.str x) (.str y) = decide (x = y) := by
  show (x == y) = _
  by_cases h : x = y
  · subst h; simp
  · rw [decide_eq_false h]; exact beq_eq_false_iff_ne.mpr h
theorem eqvI (x y : Int) : PyData.eqv (.int x) (.int y) = decide (x = y) := by
  show (x == y) = _
  by_cases h : x = y
  · subst h; simp
  · rw [decide_eq_false h]; exact beq_eq_false_iff_ne.mpr h
theorem sh_state (st : NbS) (n : Nat) : SeqAt.shaped (.str (stateW st n)) = true := by
  unfold stateW
  split
  · decide +kernel
  · split
    · decide +kernel
    · split <;> decide +kernel
theorem ch_good {t x a0 b0 : Int} (w : Nat) (hx : InR x) (ht : InR t) (ha : InR a0) (hb : InR b0) : goodS (s24 t (qa3 w x a0) (qb3 w x b0) w) = true := by
  refine good24 ht ?_ ?_ ?_ ?_ w
  · unfold qa3; split; exact qN_good hx; exact num_good ha
  · unfold qb3; split; exact num_good hb; exact qN_good hx
  · unfold qa3; split <;> simp [qN, Sm.depth]
  · unfold qb3; split <;> simp [qN, Sm.depth]
def natI (l : List Nat) : List Int := l.map fun n : Nat => (n : Int)
theorem natL_I (l : List Nat) : natL l = .list ((natI l).map PyData.int) := by unfold natI; rw [List.map_map]; rfl
theorem sort24 {w : Nat} {t : Int} (hw : w = 1 ∨ w = 2) : sortL (natI (w :: asks24 w t)) = natI (w :: asks24 w t) := by
  refine (sortL_eq (List.Perm.refl _) ?_).symm
  rcases hw with rfl | rfl <;> by_cases ht : t = 0 <;> simp [natI, asks24, ht]
theorem find24 {w : Nat} {t : Int} (hw : w = 1 ∨ w = 2) (h0 : 0 ≤ t) : findE [(1, true, natL [3]), (1, false, natL []), (2, true, natL []), (2, false, natL [3, 4])] (w : Int) (decide (0 < t)) = some (natL (asks24 w t)) := by
  rcases hw with rfl | rfl
  · by_cases ht : t = 0
    · subst ht; rfl
    · have : 0 < t := by omega
      rw [decide_eq_true this]
      simp only [asks24, ht, if_false, if_true]
      rfl
  · by_cases ht : t = 0
    · subst ht; rfl
    · have : 0 < t := by omega
      rw [decide_eq_true this]
      simp only [asks24, ht, if_false, if_true]
      rfl
theorem asks_len (w : Nat) (t : Int) : (asks24 w t).length ≤ 2 := by
  unfold asks24
  split <;> split <;> decide
theorem asks_nil {w : Nat} {t : Int} : PyData.eqv (natL (asks24 w t)) (.list []) = decide (asks24 w t = []) := by
  unfold asks24
  split <;> split <;> rfl
theorem due_len (w : Nat) (t : Int) (b : Bool) : (due24 w t b).length ≤ 100000 := by
  unfold due24
  have := asks_len w t
  rw [List.length_append]
  split <;> cases b <;> simp <;> omega
end LC
/-! The text by places: printed by gen.py -/
namespace K24
open PySem PySem.Spec PyProof.Rows L2
def top (i : Nat) : Stmt := PySem.Challenge.pw_leancells_k24_whole_not_asked.main.body.getD i (.Pass ⟨0, 0, 0, 0⟩)
abbrev s_wall : Stmt := top 0
abbrev s_is_within : Stmt := top 16
abbrev s_is_name : Stmt := top 17
abbrev s_is_sum : Stmt := top 18
abbrev s_is_row : Stmt := top 19
abbrev s_is_source : Stmt := top 20
abbrev s_look : Stmt := top 21
abbrev s_names_in : Stmt := top 22
abbrev s_sets_of : Stmt := top 23
abbrev s_reads_of : Stmt := top 24
abbrev s_Failed_init : Stmt := inClass (top 26) 0
abbrev s_reckoned : Stmt := top 27
abbrev s_worth : Stmt := top 28
abbrev s_done : Stmt := top 29
abbrev s_Record_init : Stmt := inClass (top 32) 0
abbrev s_Cell_init : Stmt := inClass (top 33) 0
abbrev s_Notebook_init : Stmt := inClass (top 34) 0
abbrev s_Notebook_look_cell : Stmt := inClass (top 34) 1
abbrev s_Notebook_look_live : Stmt := inClass (top 34) 2
abbrev s_Notebook_look_place : Stmt := inClass (top 34) 3
abbrev s_Notebook_put : Stmt := inClass (top 34) 4
abbrev s_Notebook_change : Stmt := inClass (top 34) 5
abbrev s_Notebook_move : Stmt := inClass (top 34) 6
abbrev s_Notebook_drop : Stmt := inClass (top 34) 7
abbrev s_Notebook_strike : Stmt := inClass (top 34) 8
abbrev s_Notebook_cut : Stmt := inClass (top 34) 9
abbrev s_Notebook_join : Stmt := inClass (top 34) 10
abbrev s_Notebook_setter : Stmt := inClass (top 34) 11
abbrev s_Notebook_holds : Stmt := inClass (top 34) 12
abbrev s_Notebook_last_told : Stmt := inClass (top 34) 13
abbrev s_Notebook_fresh : Stmt := inClass (top 34) 14
abbrev s_Notebook_state : Stmt := inClass (top 34) 15
abbrev s_Notebook_demand : Stmt := inClass (top 34) 16
abbrev s_Notebook_stands : Stmt := inClass (top 34) 17
abbrev s_Notebook_told : Stmt := inClass (top 34) 18
abbrev s_Notebook_asker : Stmt := inClass (top 34) 19
abbrev s_Notebook_run : Stmt := inClass (top 34) 20
abbrev s_Notebook_run_all : Stmt := inClass (top 34) 21
abbrev s_Notebook_numbers : Stmt := inClass (top 34) 22
abbrev s_Notebook_source : Stmt := inClass (top 34) 23
abbrev s_Notebook_version : Stmt := inClass (top 34) 24
abbrev s_Notebook_view : Stmt := inClass (top 34) 25
abbrev s_Notebook_leans : Stmt := inClass (top 34) 26
abbrev s_live : Stmt := top 36
abbrev s_needed : Stmt := top 37
abbrev s_stirred : Stmt := top 38
abbrev s_law_cell : Stmt := top 40
abbrev s_law : Stmt := top 41
abbrev s_Notebook_asker_ask : Stmt := (defBody s_Notebook_asker).getD 0 (.Pass ⟨0, 0, 0, 0⟩)
def mkL : LC.MkL := [(("Notebook", some "asker"), "Notebook.asker.<locals>.ask")]
/-! The head: facts by names, the run of the top -/
def d_is_within : He.DefD := ⟨("is_within", none), "is_within", "is_within", defArgs s_is_within, defBody s_is_within, defScope s_is_within, [], []⟩
def d_is_name : He.DefD := ⟨("is_name", none), "is_name", "is_name", defArgs s_is_name, defBody s_is_name, defScope s_is_name, [], []⟩
def d_is_sum : He.DefD := ⟨("is_sum", none), "is_sum", "is_sum", defArgs s_is_sum, defBody s_is_sum, defScope s_is_sum, [], []⟩
def d_is_row : He.DefD := ⟨("is_row", none), "is_row", "is_row", defArgs s_is_row, defBody s_is_row, defScope s_is_row, [], []⟩
def d_is_source : He.DefD := ⟨("is_source", none), "is_source", "is_source", defArgs s_is_source, defBody s_is_source, defScope s_is_source, [], []⟩
def d_look : He.DefD := ⟨("look", none), "look", "look", defArgs s_look, defBody s_look, defScope s_look, [], []⟩
def d_names_in : He.DefD := ⟨("names_in", none), "names_in", "names_in", defArgs s_names_in, defBody s_names_in, defScope s_names_in, [], []⟩
def d_sets_of : He.DefD := ⟨("sets_of", none), "sets_of", "sets_of", defArgs s_sets_of, defBody s_sets_of, defScope s_sets_of, [], []⟩
def d_reads_of : He.DefD := ⟨("reads_of", none), "reads_of", "reads_of", defArgs s_reads_of, defBody s_reads_of, defScope s_reads_of, [], []⟩
def d_Failed_init : He.DefD := ⟨("Failed", some "__init__"), "__init__", "Failed.__init__", defArgs s_Failed_init, defBody s_Failed_init, defScope s_Failed_init, [], []⟩
def d_reckoned : He.DefD := ⟨("reckoned", none), "reckoned", "reckoned", defArgs s_reckoned, defBody s_reckoned, defScope s_reckoned, [], []⟩
def d_worth : He.DefD := ⟨("worth", none), "worth", "worth", defArgs s_worth, defBody s_worth, defScope s_worth, [], []⟩
def d_done : He.DefD := ⟨("done", none), "done", "done", defArgs s_done, defBody s_done, defScope s_done, [], []⟩
def d_Record_init : He.DefD := ⟨("Record", some "__init__"), "__init__", "Record.__init__", defArgs s_Record_init, defBody s_Record_init, defScope s_Record_init, [], []⟩
def d_Cell_init : He.DefD := ⟨("Cell", some "__init__"), "__init__", "Cell.__init__", defArgs s_Cell_init, defBody s_Cell_init, defScope s_Cell_init, [], []⟩
def d_Notebook_init : He.DefD := ⟨("Notebook", some "__init__"), "__init__", "Notebook.__init__", defArgs s_Notebook_init, defBody s_Notebook_init, defScope s_Notebook_init, [], []⟩
def d_Notebook_look_cell : He.DefD := ⟨("Notebook", some "look_cell"), "look_cell", "Notebook.look_cell", defArgs s_Notebook_look_cell, defBody s_Notebook_look_cell, defScope s_Notebook_look_cell, [], []⟩
def d_Notebook_look_live : He.DefD := ⟨("Notebook", some "look_live"), "look_live", "Notebook.look_live", defArgs s_Notebook_look_live, defBody s_Notebook_look_live, defScope s_Notebook_look_live, [], []⟩
def d_Notebook_look_place : He.DefD := ⟨("Notebook", some "look_place"), "look_place", "Notebook.look_place", defArgs s_Notebook_look_place, defBody s_Notebook_look_place, defScope s_Notebook_look_place, [], []⟩
def d_Notebook_put : He.DefD := ⟨("Notebook", some "put"), "put", "Notebook.put", defArgs s_Notebook_put, defBody s_Notebook_put, defScope s_Notebook_put, [], []⟩
def d_Notebook_change : He.DefD := ⟨("Notebook", some "change"), "change", "Notebook.change", defArgs s_Notebook_change, defBody s_Notebook_change, defScope s_Notebook_change, [], []⟩
def d_Notebook_setter : He.DefD := ⟨("Notebook", some "setter"), "setter", "Notebook.setter", defArgs s_Notebook_setter, defBody s_Notebook_setter, defScope s_Notebook_setter, [], []⟩
def d_Notebook_holds : He.DefD := ⟨("Notebook", some "holds"), "holds", "Notebook.holds", defArgs s_Notebook_holds, defBody s_Notebook_holds, defScope s_Notebook_holds, [], []⟩
def d_Notebook_last_told : He.DefD := ⟨("Notebook", some "last_told"), "last_told", "Notebook.last_told", defArgs s_Notebook_last_told, defBody s_Notebook_last_told, defScope s_Notebook_last_told, [], []⟩
def d_Notebook_fresh : He.DefD := ⟨("Notebook", some "fresh"), "fresh", "Notebook.fresh", defArgs s_Notebook_fresh, defBody s_Notebook_fresh, defScope s_Notebook_fresh, [], []⟩
def d_Notebook_state : He.DefD := ⟨("Notebook", some "state"), "state", "Notebook.state", defArgs s_Notebook_state, defBody s_Notebook_state, defScope s_Notebook_state, [], []⟩
def d_Notebook_demand : He.DefD := ⟨("Notebook", some "demand"), "demand", "Notebook.demand", defArgs s_Notebook_demand, defBody s_Notebook_demand, defScope s_Notebook_demand, [], []⟩
def d_Notebook_stands : He.DefD := ⟨("Notebook", some "stands"), "stands", "Notebook.stands", defArgs s_Notebook_stands, defBody s_Notebook_stands, defScope s_Notebook_stands, [], []⟩
def d_Notebook_told : He.DefD := ⟨("Notebook", some "told"), "told", "Notebook.told", defArgs s_Notebook_told, defBody s_Notebook_told, defScope s_Notebook_told, [], []⟩
def d_Notebook_asker : He.DefD := ⟨("Notebook", some "asker"), "asker", "Notebook.asker", defArgs s_Notebook_asker, defBody s_Notebook_asker, defScope s_Notebook_asker, [], []⟩
def d_Notebook_run : He.DefD := ⟨("Notebook", some "run"), "run", "Notebook.run", defArgs s_Notebook_run, defBody s_Notebook_run, defScope s_Notebook_run, [], []⟩
def d_Notebook_run_all : He.DefD := ⟨("Notebook", some "run_all"), "run_all", "Notebook.run_all", defArgs s_Notebook_run_all, defBody s_Notebook_run_all, defScope s_Notebook_run_all, [], []⟩
def d_Notebook_view : He.DefD := ⟨("Notebook", some "view"), "view", "Notebook.view", defArgs s_Notebook_view, defBody s_Notebook_view, defScope s_Notebook_view, [], []⟩
def d_Notebook_leans : He.DefD := ⟨("Notebook", some "leans"), "leans", "Notebook.leans", defArgs s_Notebook_leans, defBody s_Notebook_leans, defScope s_Notebook_leans, [], []⟩
def d_live : He.DefD := ⟨("live", none), "live", "live", defArgs s_live, defBody s_live, defScope s_live, [], []⟩
def d_needed : He.DefD := ⟨("needed", none), "needed", "needed", defArgs s_needed, defBody s_needed, defScope s_needed, [], []⟩
def d_stirred : He.DefD := ⟨("stirred", none), "stirred", "stirred", defArgs s_stirred, defBody s_stirred, defScope s_stirred, [], []⟩
def d_law_cell : He.DefD := ⟨("_law_cell", none), "_law_cell", "_law_cell", defArgs s_law_cell, defBody s_law_cell, defScope s_law_cell, [], []⟩
def d_law : He.DefD := ⟨("law", none), "law", "law", defArgs s_law, defBody s_law, defScope s_law, [], []⟩
def fnL : List He.DefD := [d_is_within, d_is_name, d_is_sum, d_is_row, d_is_source, d_look, d_names_in, d_sets_of, d_reads_of, d_Failed_init, d_reckoned, d_worth, d_done, d_Record_init, d_Cell_init, d_Notebook_init, d_Notebook_look_cell, d_Notebook_look_live, d_Notebook_look_place, d_Notebook_put, d_Notebook_change, d_Notebook_setter, d_Notebook_holds, d_Notebook_last_told, d_Notebook_fresh, d_Notebook_state, d_Notebook_demand, d_Notebook_stands, d_Notebook_told, d_Notebook_asker, d_Notebook_run, d_Notebook_run_all, d_Notebook_view, d_Notebook_leans, d_live, d_needed, d_stirred, d_law_cell, d_law]
def faL : List He.Fa := [.glo "_wall", .glo "is_within", .glo "is_name", .glo "is_sum", .glo "is_row", .glo "is_source", .glo "look", .glo "names_in", .glo "sets_of", .glo "reads_of", .glo "reckoned", .glo "worth", .glo "done", .glo "live", .glo "needed", .glo "stirred", .glo "_law_cell", .glo "law", .glo "Record", .cls "Record", .noat "Record" "lines", .noat "Record" "asked", .noat "Record" "shown", .noat "Record" "sets", .noat "Record" "why", .glo "Cell", .cls "Cell", .noat "Cell" "lines", .noat "Cell" "count", .noat "Cell" "struck", .noat "Cell" "record", .glo "Notebook", .cls "Notebook", .noat "Notebook" "cells", .noat "Notebook" "row", .noat "Notebook" "after", .mkr "Record", .mkr "Cell", .mkr "Notebook", .meth "Notebook" "look_cell", .meth "Notebook" "look_live", .meth "Notebook" "look_place", .meth "Notebook" "put", .meth "Notebook" "change", .meth "Notebook" "setter", .meth "Notebook" "holds", .meth "Notebook" "last_told", .meth "Notebook" "fresh", .meth "Notebook" "state", .meth "Notebook" "demand", .meth "Notebook" "stands", .meth "Notebook" "told", .meth "Notebook" "asker", .meth "Notebook" "run", .meth "Notebook" "run_all", .meth "Notebook" "view", .meth "Notebook" "leans", .glo "Failed", .glo "LeanError", .exc "LeanError", .glo "BadSource", .exc "BadSource", .glo "BadNumber", .exc "BadNumber", .glo "NoCell", .exc "NoCell", .glo "Struck", .exc "Struck", .glo "Behind", .exc "Behind", .glo "Full", .exc "Full", .str "__name__" "law_leancells_k24_whole_not_asked", .str "SMALL" "abcdefghijklmnopqrstuvwxyz", .int "ROUND" 10000, .int "MOST_ROWS" 8, .int "MOST_DEEP" 6, .glo "WORDS", .glo "BARRED", .int "MOST_CELLS" 30, .free "len", .free "isinstance", .free "range", .free "tuple", .free "sorted", .free "set", .free "int", .free "str", .free "bool", .free "list", .free "min", .free "zip", .free "enumerate", .free "dict", .free "ValueError"]
def exB (K : PySem.W.Frag) : Bool := He.tupB K "WORDS" [.str "add", .str "less", .str "times", .str "over", .str "same"] && He.tupB K "BARRED" [.str "add", .str "less", .str "times", .str "over", .str "same", .str "if", .str "set", .str "show"] && LC.failB K && LC.distB K mkL && true
abbrev R : PySem.W.OpenRow := PySem.W.OpenLaw.row PySem.Challenge.rw_leancells_k24_whole_not_asked
abbrev hk : PySem.W.Hook := He.hookX 7 faL fnL [] (LC.tfOf mkL) exB
def ob (s : PySem.W.SharedT) : He.AlX := He.obsX 7 faL fnL [] (LC.tfOf mkL) exB (HandSHeadRun.getT s)
theorem ob_eq (s : PySem.W.SharedT) : ob s = hk.obs s.abs := He.obsX_eq (HandSHeadRun.getT_eq s)
def loose0 : List PySem.Str := ["_wall", "LeanError", "BadSource", "BadNumber", "NoCell", "Struck", "Behind", "Full", "SMALL", "ROUND", "MOST_ROWS", "MOST_DEEP", "WORDS", "BARRED", "is_within", "is_name", "is_sum", "is_row", "is_source", "look", "names_in", "sets_of", "reads_of", "Failed", "reckoned", "worth", "done", "MOST_CELLS", "Record", "Cell"]
def loose1 : List PySem.Str := ["Notebook", "live", "needed", "stirred", "_law_cell"]
def looseL : List PySem.Str := loose0 ++ loose1
theorem run (w : World) : HandSHeadRun.RunEq R (PySem.W.view R.prog [41]) hk ob 8000 looseL w := by
  intro os
  kernel_rfl
open LC Evl
section
variable {P : Program} {w : World} {K : PySem.W.Frag} {mg : Str → Option Value} {base : Heap}
theorem sc_is_within : FnScope ["thing", "low", "high"] ["thing", "low", "high"] (defScope s_is_within) := ⟨rfl, rfl, rfl, by decide +kernel, rfl, by decide +kernel, by decide +kernel⟩
theorem ok_is_within {f : Addr} {fd : FuncData} (F : FnP K "is_within" "is_within" s_is_within f fd) (g : mg "is_within" = some (.ref f)) (T : Tx mg)  : Has P w K mg base CX0 1 "is_within" ["thing", "low", "high"] (spD K F_is_within) := by
  have nd := (sc_is_within).nd
  refine has_d (FF := F_is_within) F g (F.bindsN fun _ _ _ _ _ _ us hl => match us, hl with | [_, _, _], _ => rfl) sc_is_within (by rintro _ _ ⟨_, _, _, rfl, _⟩; rfl) (fun cdv A outer s H vs Q E ds d H0 hr x hd hf k => ?_)
  obtain ⟨a, lo, hi, rfl, rfl⟩ := hf
  obtain ⟨v0, v1, v2, rfl, d0, d1, d2⟩ := dts3 hd
  refine ⟨_, (pss_one (ps_ret (pe_and (pe_callB (kIsi (K := K) rfl) rfl (T.free (by decide)) boot_isinstance (pa_cons (pv 0) (pa_cons (pe_bltn (v := .ty "int") rfl (T.free (by decide)) boot_int rfl) pa_nil))) (pe_and (kNot (K := K) rfl (pe_callB (kIsi (K := K) rfl) rfl (T.free (by decide)) boot_isinstance (pa_cons (pv 0) (pa_cons (pe_bltn (v := .ty "bool") rfl (T.free (by decide)) boot_bool rfl) pa_nil)))) (pe_one (pe_chain op_le op_le (pv 1) (pv 0) (pv 2))))))), ?_⟩
  refine s_retD (d := .bool (isWithin a lo hi)) (evd_is (d := .bool (isT a "int" && (!isT a "bool" && isWithin a lo hi))) (evd_b (ev_andV (ev_isi (evd_var d0) (by decide)) fun e1 => ev_andV (ev_notB (ev_isi (evd_var d0) (by decide))) fun e2 => ?_)) (congrArg PyData.bool (within_eq a lo hi))) x k
  obtain ⟨i, rfl⟩ : ∃ i, a = .int i := by
    cases a <;> simp [isT, tyN] at e1 e2
    exact ⟨_, rfl⟩
  exact ev_chain (K := K) (p := fun i j => decide (i ≤ j)) (q := fun i j => decide (i ≤ j)) (evd_var d1) (evd_var d0) (evd_var d2)
theorem sc_is_name : FnScope ["thing", "sign"] ["thing"] (defScope s_is_name) := ⟨rfl, rfl, rfl, by decide +kernel, rfl, by decide +kernel, by decide +kernel⟩
theorem ok_is_name {f : Addr} {fd : FuncData} (F : FnP K "is_name" "is_name" s_is_name f fd) (g : mg "is_name" = some (.ref f)) (T : Tx mg) (m_SMALL : ∃ t, mg "SMALL" = some (.str smallS t)) {a_BARRED : Addr} (m_BARRED : mg "BARRED" = some (.ref a_BARRED)) (b_BARRED : ∀ H, Dt K H (.ref a_BARRED) (.tuple (barredS.map PyData.str))) : Has P w K mg base CX0 1 "is_name" ["thing"] (spD K F_is_name) := by
  have nd := (sc_is_name).nd
  refine has_d (FF := F_is_name) F g (F.bindsN fun _ _ _ _ _ _ us hl => match us, hl with | [_], _ => rfl) sc_is_name (by rintro _ _ ⟨_, rfl, _⟩; rfl) (fun cdv A outer s H vs Q E ds d H0 hr x hd hf k => ?_)
  obtain ⟨a, rfl, ok, rfl⟩ := hf
  obtain ⟨v0, rfl, d0⟩ := dts1 hd
  refine ⟨_, (pss_cons (ps_if (PW.pt (pw_or (pt_not (kTruth (K := K) rfl (pe_callB (kIsi (K := K) rfl) rfl (T.free (by decide)) boot_isinstance (pa_cons (pv 0) (pa_cons (pe_bltn (v := .ty "str") rfl (T.free (by decide)) boot_str rfl) pa_nil))))) (pw_or (pt_not (pt_chain op_le op_le pe_int (pe_callB (kLen (K := K) rfl) rfl (T.free (by decide)) boot_len (pa_cons (pv 0) pa_nil)) pe_int)) (pw_or1 (pt_cmpR (kIn (K := K) rfl) (pv 0) (pe_gref m_BARRED) rfl))))) (pss_one (ps_ret pe_bl)) pss_nil)
      (pss_one (ps_ret (kNot (K := K) rfl (pe_lc (own := [("sign", 1)]) rfl nd (kSeq (K := K) rfl (pv 0)) (blkOk_by (N := ["thing", "sign"]) (sc := defScope s_is_name) (own := [("sign", 1)]) (by decide +kernel)) (fun _ _ _ _ _ => (pg_name (i := 1) nd rfl (Or.inl rfl))) (fun _ _ _ _ _ => (pts_one (pt_cmpR (kNotIn (K := K) rfl) (pv 1) (pe_gstr m_SMALL) rfl))) (fun _ _ _ _ _ => (pv 1))))))), ?_⟩
  cases hT : isT a "str" with
  | false =>
    refine s_ifD (b := true) (et_or (a := true) (b := true) (et_not (a := false) (et_is (et_b (ev_isi (evd_var d0) (by decide))) hT)) fun z => nomatch z) x (fun _ H1 e1 => ?_) fun z => nomatch z
    refine s_retD (evd_is evd_bl ?_) (x.trans e1) fun v H2 Hd g => k v H2 Hd (g.after e1)
    cases a <;> first | rfl | simp [isT, tyN] at hT
  | true =>
    obtain ⟨z, rfl⟩ := isT_str hT
    have hz := ok_str ok
    have hB : ∀ H1, Dt K H1 (.ref a_BARRED) (.tuple (barredS.map PyData.str)) := fun H1 => b_BARRED H1
    refine s_ifD (b := !(decide ((1 : Int) ≤ (z.length : Int)) && decide ((z.length : Int) ≤ 4)) || decide (z ∈ barredS)) (et_or (a := false) (et_not (a := true) (et_is (et_b (ev_isi (evd_var d0) (by decide))) hT)) fun _ => et_or (et_not (et_chain (K := K) (p := fun i j => decide (i ≤ j)) (q := fun i j => decide (i ≤ j)) evd_int (evd_i (ev_lenS (evd_var d0) (sz_of hz))) evd_int))
      fun _ => et_is (et_test (ev_inT (neg := false) (evd_var d0) (evd_ref (hB _)) rfl (flat_strs _))) (by simp [inD_str])) x (fun hb H1 e1 => ?_) fun hb H1 e1 => ?_
    · refine s_retD (evd_is evd_bl ?_) (x.trans e1) fun v H2 Hd g => k v H2 Hd (g.after e1)
      refine congrArg PyData.bool (Eq.symm ?_)
      show nameS z = false
      unfold nameS
      rw [Bool.or_eq_true] at hb
      rcases hb with hb | hb
      · have q : (decide (1 ≤ z.length) && decide (z.length ≤ 4)) = false := by
          rw [Bool.not_eq_true', Bool.and_eq_false_iff] at hb
          rw [Bool.and_eq_false_iff]
          simp only [decide_eq_false_iff_not] at hb ⊢
          omega
        rw [q, Bool.false_and]
      · rw [hb]
        simp
    · rw [Bool.or_eq_false_iff, Bool.not_eq_false'] at hb
      have hl : (decide (1 ≤ z.length) && decide (z.length ≤ 4)) = true := by
        have := hb.1
        rw [Bool.and_eq_true] at this ⊢
        simp only [decide_eq_true_eq] at this ⊢
        omega
      have hl4 : z.length ≤ 4 := by
        rw [Bool.and_eq_true] at hl
        exact of_decide_eq_true hl.2
      refine s_retD (d := .bool (nameS z)) (evd_is (evd_b (ev_notD (evd_lcS (fun c => !decide (c ∈ smallS.cps.toList)) (fun c => .str ⟨#[c]⟩) (evd_var d0) (by omega) (fun _ => rfl) (fun c H1 _ _ => et_test (ev_inS (neg := true) (evd_var (.str _)) (evd_str (x := smallS)))) fun c H1 _ _ _ => evd_var (.str _)) (ok_lst_of ?_))) (congrArg PyData.bool ?_)) (x.trans e1) fun v H2 Hd g => k v H2 Hd (g.after e1)
      · intro d hd
        obtain ⟨c, hc, rfl⟩ := List.mem_map.mp hd
        exact ok_sign ok (List.mem_filter.mp hc).1
      · unfold nameS
        rw [hl, hb.2, Bool.true_and, Bool.not_false, Bool.true_and]
        show (!(!(List.map _ _).isEmpty)) = _
        rw [Bool.not_not, List.isEmpty_map, Bool.eq_iff_iff, List.isEmpty_iff, List.filter_eq_nil_iff, List.all_eq_true]
        simp
theorem sc_is_sum : FnScope ["thing", "deep", "part"] ["thing", "deep"] (defScope s_is_sum) := ⟨rfl, rfl, rfl, by decide +kernel, rfl, by decide +kernel, by decide +kernel⟩
theorem step_is_sum {f : Addr} {fd : FuncData} (F : FnP K "is_sum" "is_sum" s_is_sum f fd) (g : mg "is_sum" = some (.ref f)) (T : Tx mg) (n : Nat) {a_WORDS : Addr} (m_WORDS : mg "WORDS" = some (.ref a_WORDS)) (b_WORDS : ∀ H, Dt K H (.ref a_WORDS) (.tuple (wordsS.map PyData.str))) (h_is_sum : Has P w K mg base CX0 (n + 1) "is_sum" ["thing", "deep"] (spD K (Fprev F_is_sum n))) (h_is_within : Has P w K mg base CX0 1 "is_within" ["thing", "low", "high"] (spD K F_is_within)) (m_ROUND : ∃ t, mg "ROUND" = some (.int 10000 t)) (h_is_name : Has P w K mg base CX0 1 "is_name" ["thing"] (spD K F_is_name)) : HasF P w K mg base CX0 (n + 2) "is_sum" ["thing", "deep"] (spD K (F_is_sum n)) f fd := by
  have nd := (sc_is_sum).nd
  refine hasF_d (FF := F_is_sum n) F g (F.bindsN fun _ _ _ _ _ _ us hl => match us, hl with | [_, _], _ => rfl) sc_is_sum (by rintro _ _ ⟨_, rfl, _⟩; rfl) (fun cdv A outer s H vs Q E ds d H0 hr x hd hf k => ?_)
  obtain ⟨a, rfl, ok, rfl⟩ := hf
  obtain ⟨v0, v1, rfl, d0, d1⟩ := dts2 hd
  refine ⟨_, (pss_cons (ps_if (kTruth (K := K) rfl (pe_callB (kIsi (K := K) rfl) rfl (T.free (by decide)) boot_isinstance (pa_cons (pv 0) (pa_cons (pe_bltn (v := .ty "str") rfl (T.free (by decide)) boot_str rfl) pa_nil)))) (pss_one (ps_ret (pe_has h_is_name hr (by omega) rfl pass0 (pa_cons (pv 0) pa_nil)))) pss_nil)
      (pss_cons (ps_if (pt_not (kTruth (K := K) rfl (pe_callB (kIsi (K := K) rfl) rfl (T.free (by decide)) boot_isinstance (pa_cons (pv 0) (pa_cons (pe_bltn (v := .ty "tuple") rfl (T.free (by decide)) boot_tuple rfl) pa_nil))))) (pss_one (ps_ret (pe_has h_is_within hr (by omega) rfl pass0 (pa_cons (pv 0) (pa_cons pe_int (pa_cons (pe_op op_sub (pe_gint m_ROUND) pe_int) pa_nil)))))) pss_nil)
      (pss_cons (ps_if (PW.pt (pw_or (pt_cmpR op_lt (pv 1) pe_int (nomark _)) (pw_or (pt_not (kTruth (K := K) rfl (pv 0))) (pw_or1 (pt_not (kTruth (K := K) rfl (pe_callB (kIsi (K := K) rfl) rfl (T.free (by decide)) boot_isinstance (pa_cons (pe_ix (kIx (K := K) rfl) (pv 0) pe_int (fun _ _ => rfl)) (pa_cons (pe_bltn (v := .ty "str") rfl (T.free (by decide)) boot_str rfl) pa_nil))))))))) (pss_one (ps_ret pe_bl)) pss_nil)
      (pss_cons (ps_if (PW.pt (pw_or (PW.pt (pw_and (pt_cmpR (kIn (K := K) rfl) (pe_ix (kIx (K := K) rfl) (pv 0) pe_int (fun _ _ => rfl)) (pe_gref m_WORDS) rfl) (pw_and1 (pt_cmpR (kEq (K := K) rfl hr.units) (pe_callB (kLen (K := K) rfl) rfl (T.free (by decide)) boot_len (pa_cons (pv 0) pa_nil)) pe_int (nomark _))))) (pw_or1 (PW.pt (pw_and (pt_cmpR (kEq (K := K) rfl hr.units) (pe_ix (kIx (K := K) rfl) (pv 0) pe_int (fun _ _ => rfl)) pe_str (nomark _)) (pw_and1 (pt_cmpR (kEq (K := K) rfl hr.units) (pe_callB (kLen (K := K) rfl) rfl (T.free (by decide)) boot_len (pa_cons (pv 0) pa_nil)) pe_int (nomark _)))))))) (pss_one (ps_ret (kNot (K := K) rfl (pe_lc (own := [("part", 2)]) rfl nd (kSeq (K := K) rfl (pe_slice (kSl (K := K) rfl) (pv 0) (po_some pe_int) po_none)) (blkOk_by (N := ["thing", "deep", "part"]) (sc := defScope s_is_sum) (own := [("part", 2)]) (by decide +kernel)) (fun _ _ _ _ _ => (pg_name (i := 2) nd rfl (Or.inl rfl))) (fun _ _ _ _ _ => (pts_one (pt_not (kTruth (K := K) rfl (pe_has h_is_sum hr (by omega) rfl pass0 (pa_cons (pv 2) (pa_cons (pe_op op_sub (pv 1) pe_int) pa_nil))))))) (fun _ _ _ _ _ => (pv 2)))))) pss_nil)
      (pss_one (ps_ret pe_bl)))))), ?_⟩
  have k : Rt K H0 H (.bool (isSum n a)) Q := k
  cases hS : isT a "str" with
  | true =>
    refine s_yes (et_is (et_b (ev_isi (evd_var d0) (by decide))) hS) x fun H1 e1 => ?_
    refine (k.go e1).ret (x.trans e1) (evd_call (eds_cons (evd_var d0) eds_nil) ⟨_, rfl, ok, rfl⟩) ?_
    obtain ⟨z, rfl⟩ := isT_str hS
    cases n <;> rfl
  | false =>
    refine s_nay (et_is (et_b (ev_isi (evd_var d0) (by decide))) hS) x fun H1 e1 => ?_
    cases hT : isT a "tuple" with
    | false =>
      refine s_yes (et_not (a := false) (et_is (et_b (ev_isi (evd_var d0) (by decide))) hT)) (x.trans e1) fun H2 e2 => ?_
      refine ((k.go e1).go e2).ret ((x.trans e1).trans e2) (evd_call (eds_cons (evd_var d0) (eds_cons evd_int (eds_cons (evd_i (ev_I0 (K := K) evd_int evd_int)) eds_nil))) ⟨_, _, _, rfl, rfl⟩) ?_
      rw [isSum_nontup hS hT]
      rfl
    | true =>
      refine s_nay (et_not (a := true) (et_is (et_b (ev_isi (evd_var d0) (by decide))) hT)) (x.trans e1) fun H2 e2 => ?_
      obtain ⟨ds, rfl⟩ := isT_tup hT
      have x2 := (x.trans e1).trans e2
      have k2 := (k.go e1).go e2
      have no : ∀ {H3 : Hp}, Ex H2 H3 → isSum n (.tuple ds) = false → tRet (tC (.bl false)) { nx := fun _ H' => Q .non H', rt := Q } (start ["thing", "deep", "part"] [v0, v1]) H3 := fun e3 z => (k2.go e3).ret (x2.trans e3) evd_bl (congrArg PyData.bool z.symm)
      cases n with
      | zero =>
        refine s_yes (et_or (a := true) (b := true) (et_test (ev_is (ev_I0 (K := K) (evd_var d1) evd_int) rfl)) fun z => nomatch z) x2 fun H3 e3 => no e3 (by simp [isSum])
      | succ m =>
        have t1 : EvT (tTest (tOp (rI0 fun i j => V.bl (decide (i < j))) (tVar 1) (tC (.int 1)))) (start ["thing", "deep", "part"] [v0, v1]) H0 false := et_test (ev_is (ev_I0 (K := K) (evd_var d1) evd_int) (by show V.bl (decide (((m + 1 : Nat) : Int) < 1)) = _; rw [decide_eq_false (by omega)]))
        cases ds with
        | nil =>
          refine s_yes (et_or (a := false) (b := true) t1 fun _ => et_or (a := true) (b := true) (et_not (a := false) (et_d (evd_var d0) ok)) fun z => nomatch z) x2 fun H3 e3 => no e3 ?_
          rfl
        | cons w r =>
          have i0 : EvD K (tOp (rIx K) (tVar 0) (tC (.int 0))) (start ["thing", "deep", "part"] [v0, v1]) H0 w := evd_ixT (evd_var d0) evd_int (atI_0 _ _)
          cases hw : isT w "str" with
          | false =>
            refine s_yes (et_or (a := false) (b := true) t1 fun _ => et_or (a := false) (b := true) (et_not (a := true) (et_d (evd_var d0) ok)) fun _ => et_not (a := false) (et_is (et_b (ev_isi i0 (by decide))) hw)) x2 fun H3 e3 => no e3 ?_
            cases w <;> first | rfl | simp [isT, tyN] at hw
          | true =>
            obtain ⟨z, rfl⟩ := isT_str hw
            refine s_nay (et_or (a := false) (b := false) t1 fun _ => et_or (a := false) (b := false) (et_not (a := true) (et_d (evd_var d0) ok)) fun _ => et_not (a := true) (et_is (et_b (ev_isi i0 (by decide))) hw)) x2 fun H3 e3 => ?_
            have okz : SeqAt.shaped (PyData.str z) = true := shapedS (ok_tup ok (List.mem_cons_self ..))
            have hW : ∀ H1, Dt K H1 (.ref a_WORDS) (.tuple (wordsS.map PyData.str)) := fun H1 => b_WORDS H1
            have len : ∀ q : Int, Ev (tOp (rEqD K) (tCB (rLenU K) (tCons (tVar 0) tNil)) (tC (.int q))) (start ["thing", "deep", "part"] [v0, v1]) H0 (.bl (((r.length + 1 : Nat) : Int) == q)) := fun q => ev_eq (evd_i (ev_lenT (evd_var d0))) evd_int rfl rfl
            refine s_ifD (b := sumHead z (r.length + 1)) (et_is (et_or (et_and (et_test (ev_inT (neg := false) i0 (evd_ref (hW _)) rfl (flat_strs _))) fun _ => et_test (len 3)) fun _ => et_and (et_test (ev_eq i0 evd_str okz (by decide +kernel))) fun _ => et_test (len 4)) ?_) (x2.trans e3) (fun hb H4 e4 => ?_) fun hb H4 e4 => ?_
            · unfold sumHead
              rw [show (if false = true then _ else inD (PyData.str z) (wordsS.map PyData.str)) = inD (PyData.str z) (wordsS.map PyData.str) from rfl, inD_str]
              have e3 : (((r.length + 1 : Nat) : Int) == 3) = (r.length + 1 == 3) := by rw [Bool.eq_iff_iff]; simp; omega
              have e4 : (((r.length + 1 : Nat) : Int) == 4) = (r.length + 1 == 4) := by rw [Bool.eq_iff_iff]; simp; omega
              rw [e3, e4]
              rfl
            · have hlen : r.length ≤ 3 := by
                unfold sumHead at hb
                simp at hb
                omega
              have sl : EvD K (tSl (rSlU K) (tVar 0) (tPart (tC (.int 1))) tNoPart) (start ["thing", "deep", "part"] [v0, v1]) H0 (.tuple r) := evd_is (evd_slT (evd_var d0) (eo_i (K := K) evd_int) eo_none) (congrArg PyData.tuple (cut_tail _ _))
              refine ((k2.go e3).go e4).ret ((x2.trans e3).trans e4) (evd_b (ev_notD (evd_lcT (fun d => !isSum m d) id sl (by omega) (fun _ => rfl) (fun v d H5 _ hm hv => et_not (et_b (ev_bl (evd_call (eds_cons (evd_var hv) (eds_cons (evd_i (ev_is (ev_I0 (K := K) (evd_var (d := .int ((m + 1 : Nat) : Int)) ?_) evd_int) ?_)) eds_nil)) ⟨d, rfl, ok_tup ok (List.mem_cons_of_mem _ hm), rfl⟩)))) fun v d H5 _ _ _ hv => evd_var hv) (ok_lst_of ?_))) (congrArg PyData.bool ?_)
              · exact dp_ex (by assumption) _ _ d1
              · show V.int (((m + 1 : Nat) : Int) - 1) = V.int (m : Int)
                congr 1
                omega
              · intro d hd
                rw [List.map_id] at hd
                exact ok_tup ok (List.mem_cons_of_mem _ (List.mem_filter.mp hd).1)
              · show (!(!(List.map id (r.filter fun d => !isSum m d)).isEmpty)) = (sumHead z (r.length + 1) && r.all (isSum m))
                rw [hb, Bool.true_and, Bool.not_not, List.isEmpty_map, Bool.eq_iff_iff, List.isEmpty_iff, List.filter_eq_nil_iff, List.all_eq_true]
                simp
            · refine no (e3.trans e4) ?_
              show (sumHead z (r.length + 1) && _) = false
              rw [hb, Bool.false_and]
theorem all_is_sum {f : Addr} {fd : FuncData} (F : FnP K "is_sum" "is_sum" s_is_sum f fd) (g : mg "is_sum" = some (.ref f)) (T : Tx mg) {a_WORDS : Addr} (m_WORDS : mg "WORDS" = some (.ref a_WORDS)) (b_WORDS : ∀ H, Dt K H (.ref a_WORDS) (.tuple (wordsS.map PyData.str)))  (h_is_within : Has P w K mg base CX0 1 "is_within" ["thing", "low", "high"] (spD K F_is_within)) (m_ROUND : ∃ t, mg "ROUND" = some (.int 10000 t)) (h_is_name : Has P w K mg base CX0 1 "is_name" ["thing"] (spD K F_is_name)) : ∀ n : Nat, HasF P w K mg base CX0 (n + 2) "is_sum" ["thing", "deep"] (spD K (F_is_sum n)) f fd
  | 0 => step_is_sum F g T 0 (h_is_sum := has_never F g (F.bindsN fun _ _ _ _ _ _ us hl => match us, hl with | [_, _], _ => rfl) _ fun _ _ z => z) (m_WORDS := m_WORDS) (b_WORDS := b_WORDS) (h_is_within := h_is_within) (m_ROUND := m_ROUND) (h_is_name := h_is_name)
  | n + 1 => step_is_sum F g T (n + 1) (h_is_sum := (all_is_sum F g T (m_WORDS := m_WORDS) (b_WORDS := b_WORDS) (h_is_within := h_is_within) (m_ROUND := m_ROUND) (h_is_name := h_is_name) n).has) (m_WORDS := m_WORDS) (b_WORDS := b_WORDS) (h_is_within := h_is_within) (m_ROUND := m_ROUND) (h_is_name := h_is_name)
theorem ok_is_sum {f : Addr} {fd : FuncData} (F : FnP K "is_sum" "is_sum" s_is_sum f fd) (g : mg "is_sum" = some (.ref f)) (T : Tx mg) {a_WORDS : Addr} (m_WORDS : mg "WORDS" = some (.ref a_WORDS)) (b_WORDS : ∀ H, Dt K H (.ref a_WORDS) (.tuple (wordsS.map PyData.str)))  (h_is_within : Has P w K mg base CX0 1 "is_within" ["thing", "low", "high"] (spD K F_is_within)) (m_ROUND : ∃ t, mg "ROUND" = some (.int 10000 t)) (h_is_name : Has P w K mg base CX0 1 "is_name" ["thing"] (spD K F_is_name)) : Has P w K mg base CX0 8 "is_sum" ["thing", "deep"] (spD K (F_is_sum 6)) :=
  (all_is_sum F g T (m_WORDS := m_WORDS) (b_WORDS := b_WORDS) (h_is_within := h_is_within) (m_ROUND := m_ROUND) (h_is_name := h_is_name) 6).has
theorem sc_is_row : FnScope ["thing"] ["thing"] (defScope s_is_row) := ⟨rfl, rfl, rfl, by decide +kernel, rfl, by decide +kernel, by decide +kernel⟩
theorem ok_is_row {f : Addr} {fd : FuncData} (F : FnP K "is_row" "is_row" s_is_row f fd) (g : mg "is_row" = some (.ref f)) (T : Tx mg) (h_is_sum : Has P w K mg base CX0 8 "is_sum" ["thing", "deep"] (spD K (F_is_sum 6))) (m_MOST_DEEP : ∃ t, mg "MOST_DEEP" = some (.int 6 t)) (h_is_name : Has P w K mg base CX0 1 "is_name" ["thing"] (spD K F_is_name)) : Has P w K mg base CX0 9 "is_row" ["thing"] (spD K F_is_row) := by
  have nd := (sc_is_row).nd
  refine has_d (FF := F_is_row) F g (F.bindsN fun _ _ _ _ _ _ us hl => match us, hl with | [_], _ => rfl) sc_is_row (by rintro _ _ ⟨_, rfl, _⟩; rfl) (fun cdv A outer s H vs Q E ds d H0 hr x hd hf k => ?_)
  obtain ⟨a, rfl, ok, rfl⟩ := hf
  obtain ⟨v0, rfl, d0⟩ := dts1 hd
  refine ⟨_, (pss_cons (ps_if (PW.pt (pw_or (pt_not (kTruth (K := K) rfl (pe_callB (kIsi (K := K) rfl) rfl (T.free (by decide)) boot_isinstance (pa_cons (pv 0) (pa_cons (pe_bltn (v := .ty "tuple") rfl (T.free (by decide)) boot_tuple rfl) pa_nil))))) (pw_or (pt_not (kTruth (K := K) rfl (pv 0))) (pw_or1 (pt_not (kTruth (K := K) rfl (pe_callB (kIsi (K := K) rfl) rfl (T.free (by decide)) boot_isinstance (pa_cons (pe_ix (kIx (K := K) rfl) (pv 0) pe_int (fun _ _ => rfl)) (pa_cons (pe_bltn (v := .ty "str") rfl (T.free (by decide)) boot_str rfl) pa_nil))))))))) (pss_one (ps_ret pe_bl)) pss_nil)
      (pss_cons (ps_if (pt_cmpR (kEq (K := K) rfl hr.units) (pe_ix (kIx (K := K) rfl) (pv 0) pe_int (fun _ _ => rfl)) pe_str (nomark _)) (pss_one (ps_ret (pe_and (pe_cmpR (kEq (K := K) rfl hr.units) (pe_callB (kLen (K := K) rfl) rfl (T.free (by decide)) boot_len (pa_cons (pv 0) pa_nil)) pe_int (nomark _)) (pe_one (pe_has h_is_sum hr (by omega) rfl pass0 (pa_cons (pe_ix (kIx (K := K) rfl) (pv 0) pe_int (fun _ _ => rfl)) (pa_cons (pe_gint m_MOST_DEEP) pa_nil))))))) pss_nil)
      (pss_one (ps_ret (pe_and (pe_cmpR (kEq (K := K) rfl hr.units) (pe_ix (kIx (K := K) rfl) (pv 0) pe_int (fun _ _ => rfl)) pe_str (nomark _)) (pe_and (pe_cmpR (kEq (K := K) rfl hr.units) (pe_callB (kLen (K := K) rfl) rfl (T.free (by decide)) boot_len (pa_cons (pv 0) pa_nil)) pe_int (nomark _)) (pe_and (pe_has h_is_name hr (by omega) rfl pass0 (pa_cons (pe_ix (kIx (K := K) rfl) (pv 0) pe_int (fun _ _ => rfl)) pa_nil)) (pe_one (pe_has h_is_sum hr (by omega) rfl pass0 (pa_cons (pe_ix (kIx (K := K) rfl) (pv 0) pe_int (fun _ _ => rfl)) (pa_cons (pe_gint m_MOST_DEEP) pa_nil))))))))))), ?_⟩
  have k : Rt K H0 H (.bool (isRow a)) Q := k
  have no : ∀ {H3 : Hp}, Ex H H3 → isRow a = false → tRet (tC (.bl false)) { nx := fun _ H' => Q .non H', rt := Q } (start ["thing"] [v0]) H3 := fun e3 z => (k.go e3).ret (x.trans e3) evd_bl (congrArg PyData.bool z.symm)
  cases hT : isT a "tuple" with
  | false =>
    refine s_yes (et_or (a := true) (b := true) (et_not (a := false) (et_is (et_b (ev_isi (evd_var d0) (by decide))) hT)) fun z => nomatch z) x fun H1 e1 => no e1 ?_
    cases a <;> first | rfl | simp [isT, tyN] at hT
  | true =>
    obtain ⟨ds, rfl⟩ := isT_tup hT
    cases ds with
    | nil =>
      refine s_yes (et_or (a := false) (b := true) (et_not (a := true) (et_is (et_b (ev_isi (evd_var d0) (by decide))) hT)) fun _ => et_or (a := true) (b := true) (et_not (a := false) (et_d (evd_var d0) ok)) fun z => nomatch z) x fun H1 e1 => no e1 rfl
    | cons w r =>
      have i0 : EvD K (tOp (rIx K) (tVar 0) (tC (.int 0))) (start ["thing"] [v0]) H0 w := evd_ixT (evd_var d0) evd_int (atI_0 _ _)
      cases hw : isT w "str" with
      | false =>
        refine s_yes (et_or (a := false) (b := true) (et_not (a := true) (et_is (et_b (ev_isi (evd_var d0) (by decide))) hT)) fun _ => et_or (a := false) (b := true) (et_not (a := true) (et_d (evd_var d0) ok)) fun _ => et_not (a := false) (et_is (et_b (ev_isi i0 (by decide))) hw)) x fun H1 e1 => no e1 ?_
        cases w <;> first | rfl | simp [isT, tyN] at hw
      | true =>
        obtain ⟨z, rfl⟩ := isT_str hw
        refine s_nay (et_or (a := false) (b := false) (et_not (a := true) (et_is (et_b (ev_isi (evd_var d0) (by decide))) hT)) fun _ => et_or (a := false) (b := false) (et_not (a := true) (et_d (evd_var d0) ok)) fun _ => et_not (a := true) (et_is (et_b (ev_isi i0 (by decide))) hw)) x fun H1 e1 => ?_
        have okz : SeqAt.shaped (PyData.str z) = true := shapedS (ok_tup ok (List.mem_cons_self ..))
        have len : ∀ q : Int, Ev (tOp (rEqD K) (tCB (rLenU K) (tCons (tVar 0) tNil)) (tC (.int q))) (start ["thing"] [v0]) H0 (.bl (((r.length + 1 : Nat) : Int) == q)) := fun q => ev_eq (evd_i (ev_lenT (evd_var d0))) evd_int rfl rfl
        refine s_ifD (b := decide (z = "show")) (et_is (et_test (ev_eq i0 evd_str okz (by decide +kernel))) ?_) (x.trans e1) (fun hb H2 e2 => ?_) fun hb H2 e2 => ?_
        · show (z == ("show" : Str)) = decide (z = "show")
          rw [Bool.eq_iff_iff]; simp
        · have ez : z = "show" := of_decide_eq_true hb
          subst ez
          cases hr2 : (((r.length + 1 : Nat) : Int) == 2) with
          | false =>
            refine ((k.go e1).go e2).ret ((x.trans e1).trans e2) (evd_b (ev_andV (a := false) (b := true) (ev_is (len 2) (by rw [hr2])) fun z => nomatch z)) (congrArg PyData.bool ?_)
            match r with
            | [] => rfl
            | [_] => simp at hr2
            | [b, c] => show (false && true) = (decide (("show" : Str) = "set") && (isName b && isSum 6 c)); rw [decide_eq_false (by decide +kernel)]; rfl
            | _ :: _ :: _ :: _ => rfl
          | true =>
            obtain ⟨b, rfl⟩ : ∃ b, r = [b] := by
              match r with
              | [] => simp at hr2
              | [b] => exact ⟨b, rfl⟩
              | _ :: _ :: _ => simp at hr2 <;> omega
            refine ((k.go e1).go e2).ret ((x.trans e1).trans e2) (evd_b (ev_andV (a := true) (b := isSum 6 b) (ev_is (len 2) (by rw [hr2])) fun _ => ev_bl (evd_call (eds_cons (evd_ixT (evd_var d0) evd_int (atI_1 _ _ _)) (eds_cons evd_int eds_nil)) ⟨b, rfl, ok_tup ok (by simp), rfl⟩))) (congrArg PyData.bool ?_)
            show (true && isSum 6 b) = (decide (("show" : Str) = "show") && isSum 6 b)
            rw [decide_eq_true rfl]
        · have nz : ¬ z = "show" := of_decide_eq_false hb
          cases hz : decide (z = "set") with
          | false =>
            refine ((k.go e1).go e2).ret ((x.trans e1).trans e2) (evd_b (ev_andV (a := false) (b := true) (ev_is (ev_eq i0 evd_str okz (by decide +kernel)) ?_) fun z => nomatch z)) (congrArg PyData.bool ?_)
            · show V.bl (z == ("set" : Str)) = V.bl false
              rw [← hz]; rfl
            · match r with
              | [] => rfl
              | [b] => show (false && true) = (decide (z = "show") && isSum 6 b); rw [hb]; rfl
              | [b, c] => show (false && true) = (decide (z = "set") && (isName b && isSum 6 c)); rw [hz]; rfl
              | _ :: _ :: _ :: _ => rfl
          | true =>
            have e0 : V.bl (PyData.eqv (.str z) (.str "set")) = V.bl true := by
              show V.bl (z == ("set" : Str)) = V.bl true
              rw [← hz]; rfl
            cases hr2 : (((r.length + 1 : Nat) : Int) == 3) with
            | false =>
              refine ((k.go e1).go e2).ret ((x.trans e1).trans e2) (evd_b (ev_andV (a := true) (b := false) (ev_is (ev_eq i0 evd_str okz (by decide +kernel)) e0) fun _ => ev_andV (a := false) (b := true) (ev_is (len 3) (by rw [hr2])) fun z => nomatch z)) (congrArg PyData.bool ?_)
              match r with
              | [] => rfl
              | [b] => show (true && (false && true)) = (decide (z = "show") && isSum 6 b); rw [hb]; rfl
              | [_, _] => simp at hr2
              | _ :: _ :: _ :: _ => rfl
            | true =>
              obtain ⟨b, c, rfl⟩ : ∃ b c, r = [b, c] := by
                match r with
                | [] => simp at hr2
                | [b] => simp at hr2
                | [b, c] => exact ⟨b, c, rfl⟩
                | _ :: _ :: _ :: _ => simp at hr2 <;> omega
              refine ((k.go e1).go e2).ret ((x.trans e1).trans e2) (evd_b (ev_andV (a := true) (b := isName b && isSum 6 c) (ev_is (ev_eq i0 evd_str okz (by decide +kernel)) e0) fun _ => ev_andV (a := true) (b := isName b && isSum 6 c) (ev_is (len 3) (by rw [hr2])) fun _ => ev_andV (ev_bl (evd_call (eds_cons (evd_ixT (evd_var d0) evd_int (atI_1 _ _ _)) eds_nil) ⟨b, rfl, ok_tup ok (by simp), rfl⟩)) fun _ =>
                ev_bl (evd_call (eds_cons (evd_ixT (evd_var d0) evd_int (atI_2 _ _ _ _)) (eds_cons evd_int eds_nil)) ⟨c, rfl, ok_tup ok (by simp), rfl⟩))) (congrArg PyData.bool ?_)
              show (true && (true && (isName b && isSum 6 c))) = (decide (z = "set") && (isName b && isSum 6 c))
              rw [hz]
              rfl
theorem sc_is_source : FnScope ["thing", "row"] ["thing"] (defScope s_is_source) := ⟨rfl, rfl, rfl, by decide +kernel, rfl, by decide +kernel, by decide +kernel⟩
theorem ok_is_source {f : Addr} {fd : FuncData} (F : FnP K "is_source" "is_source" s_is_source f fd) (g : mg "is_source" = some (.ref f)) (T : Tx mg) (h_is_row : Has P w K mg base CX0 9 "is_row" ["thing"] (spD K F_is_row)) (m_MOST_ROWS : ∃ t, mg "MOST_ROWS" = some (.int 8 t)) : Has P w K mg base CX0 10 "is_source" ["thing"] (spD K F_is_source) := by
  have nd := (sc_is_source).nd
  refine has_d (FF := F_is_source) F g (F.bindsN fun _ _ _ _ _ _ us hl => match us, hl with | [_], _ => rfl) sc_is_source (by rintro _ _ ⟨_, rfl, _⟩; rfl) (fun cdv A outer s H vs Q E ds d H0 hr x hd hf k => ?_)
  obtain ⟨a, rfl, ok, rfl⟩ := hf
  obtain ⟨v0, rfl, d0⟩ := dts1 hd
  refine ⟨_, (pss_cons (ps_if (PW.pt (pw_or (pt_not (kTruth (K := K) rfl (pe_callB (kIsi (K := K) rfl) rfl (T.free (by decide)) boot_isinstance (pa_cons (pv 0) (pa_cons (pe_bltn (v := .ty "tuple") rfl (T.free (by decide)) boot_tuple rfl) pa_nil))))) (pw_or1 (pt_cmpR op_gt (pe_callB (kLen (K := K) rfl) rfl (T.free (by decide)) boot_len (pa_cons (pv 0) pa_nil)) (pe_gint m_MOST_ROWS) (nomark _))))) (pss_one (ps_ret pe_bl)) pss_nil)
      (pss_one (ps_ret (kNot (K := K) rfl (pe_lc (own := [("row", 1)]) rfl nd (kSeq (K := K) rfl (pv 0)) (blkOk_by (N := ["thing", "row"]) (sc := defScope s_is_source) (own := [("row", 1)]) (by decide +kernel)) (fun _ _ _ _ _ => (pg_name (i := 1) nd rfl (Or.inl rfl))) (fun _ _ _ _ _ => (pts_one (pt_not (kTruth (K := K) rfl (pe_has h_is_row hr (by omega) rfl pass0 (pa_cons (pv 1) pa_nil)))))) (fun _ _ _ _ _ => (pv 1))))))), ?_⟩
  have k : Rt K H0 H (.bool (isSource a)) Q := k
  have no : ∀ {H3 : Hp}, Ex H H3 → isSource a = false → tRet (tC (.bl false)) { nx := fun _ H' => Q .non H', rt := Q } (start ["thing", "row"] [v0]) H3 := fun e3 z => (k.go e3).ret (x.trans e3) evd_bl (congrArg PyData.bool z.symm)
  cases hT : isT a "tuple" with
  | false =>
    refine s_yes (et_or (a := true) (b := true) (et_not (a := false) (et_is (et_b (ev_isi (evd_var d0) (by decide))) hT)) fun z => nomatch z) x fun H1 e1 => no e1 ?_
    cases a <;> first | rfl | simp [isT, tyN] at hT
  | true =>
    obtain ⟨ds, rfl⟩ := isT_tup hT
    refine s_ifD (b := decide ((8 : Int) < (ds.length : Int))) (et_or (a := false) (et_not (a := true) (et_is (et_b (ev_isi (evd_var d0) (by decide))) hT)) fun _ => et_test (ev_I0 (K := K) (evd_i (ev_lenT (evd_var d0))) evd_int)) x (fun hb H1 e1 => no e1 ?_) fun hb H1 e1 => ?_
    · have hb := of_decide_eq_true hb
      show (decide (ds.length ≤ 8) && _) = false
      rw [decide_eq_false (by omega), Bool.false_and]
    · have hb := of_decide_eq_false hb
      refine (k.go e1).ret (x.trans e1) (evd_b (ev_notD (evd_lcT (fun d => !isRow d) id (evd_var d0) (by omega) (fun _ => rfl) (fun v d H5 _ hm hv => et_not (et_b (ev_bl (evd_call (eds_cons (evd_var hv) eds_nil) ⟨d, rfl, ok_tup ok hm, rfl⟩)))) fun v d H5 _ _ _ hv => evd_var hv) (ok_lst_of ?_))) (congrArg PyData.bool ?_)
      · intro d hd
        rw [List.map_id] at hd
        exact ok_tup ok (List.mem_filter.mp hd).1
      · show (!(!(List.map id (ds.filter fun d => !isRow d)).isEmpty)) = (decide (ds.length ≤ 8) && ds.all isRow)
        rw [decide_eq_true (by omega), Bool.true_and, Bool.not_not, List.isEmpty_map, Bool.eq_iff_iff, List.isEmpty_iff, List.filter_eq_nil_iff, List.all_eq_true]
        simp
theorem sc_look : FnScope ["source"] ["source"] (defScope s_look) := ⟨rfl, rfl, rfl, by decide +kernel, rfl, by decide +kernel, by decide +kernel⟩
theorem ok_look {f : Addr} {fd : FuncData}  (F : FnP K "look" "look" s_look f fd) (g : mg "look" = some (.ref f)) (T : Tx mg) {c_BadSource : Addr} (h_is_source : Has P w K mg base CX0 10 "is_source" ["thing"] (spD K F_is_source)) (x_BadSource : ExcF K mg "BadSource" c_BadSource) : Has P w K mg base (L2.CX P w) 11 "look" ["source"] (spDX K c_BadSource F_look) := by
  have nd := (sc_look).nd
  refine has_x F g (F.bindsN fun _ _ _ _ _ _ us hl => match us, hl with | [_], _ => rfl) sc_look (by rintro _ _ _ _ ⟨_, _, _, _, hd, ⟨_, rfl, _⟩, _⟩; exact dpAll_len hd) (fun cdv A outer s H vs Q E hr h => ?_)
  obtain ⟨_, o, H0, x, hd, ⟨d, rfl, ok, rfl⟩, k1, k2⟩ := h
  obtain ⟨v0, rfl, d0⟩ := dts1 hd
  refine ⟨_, (pss_one (ps_if (pt_not (kTruth (K := K) rfl (pe_has h_is_source hr (by omega) rfl pass0 (pa_cons (pv 0) pa_nil)))) (pss_one (ps_raise rfl (takes_of rfl rfl rfl rfl) (pmk_own PySem.F.excBase_ValueError x_BadSource.q x_BadSource.g x_BadSource.k (raises_own x_BadSource.b x_BadSource.t) rfl))) pss_nil)), ?_⟩
  refine s_ifD (b := !isSource d) (et_not (et_b (ev_bl (evd_call (eds_cons (evd_var d0) eds_nil) ⟨d, rfl, ok, rfl⟩)))) x (fun hb H1 e1 => ?_) fun hb H1 e1 => ?_
  · have hb : isSource d = false := by simpa using hb
    rw [hb] at k2
    exact k2 rfl H1 e1
  · have hb : isSource d = true := by simpa using hb
    rw [hb] at k1
    exact k1 _ rfl .non H1 H0 (Gr.base x e1) .non
theorem sc_names_in : FnScope ["some", "found", "part"] ["some"] (defScope s_names_in) := ⟨rfl, rfl, rfl, by decide +kernel, rfl, by decide +kernel, by decide +kernel⟩
theorem step_names_in {f : Addr} {fd : FuncData} (F : FnP K "names_in" "names_in" s_names_in f fd) (g : mg "names_in" = some (.ref f)) (T : Tx mg) (n : Nat) (h_names_in : Has P w K mg base CX0 (n + 1) "names_in" ["some"] (spD K (Fprev F_names_in n))) : HasF P w K mg base CX0 (n + 2) "names_in" ["some"] (spD K (F_names_in n)) f fd := by
  have nd := (sc_names_in).nd
  refine hasF_d (FF := F_names_in n) F g (F.bindsN fun _ _ _ _ _ _ us hl => match us, hl with | [_], _ => rfl) sc_names_in (by rintro _ _ ⟨_, rfl, _⟩; rfl) (fun cdv A outer s H vs Q E ds d H0 hr x hd hf k => ?_)
  obtain ⟨s, rfl, hn, h6, rfl⟩ := hf
  obtain ⟨v0, rfl, d0⟩ := dts1 hd
  refine ⟨_, (pss_cons (ps_if (kTruth (K := K) rfl (pe_callB (kIsi (K := K) rfl) rfl (T.free (by decide)) boot_isinstance (pa_cons (pv 0) (pa_cons (pe_bltn (v := .ty "str") rfl (T.free (by decide)) boot_str rfl) pa_nil)))) (pss_one (ps_ret (pe_lst (pa_cons (pv 0) pa_nil)))) pss_nil)
      (pss_cons (ps_set (i := 1) nd rfl (Or.inl rfl) (pe_lst pa_nil))
      (pss_cons (ps_if (kTruth (K := K) rfl (pe_callB (kIsi (K := K) rfl) rfl (T.free (by decide)) boot_isinstance (pa_cons (pv 0) (pa_cons (pe_bltn (v := .ty "tuple") rfl (T.free (by decide)) boot_tuple rfl) pa_nil)))) (pss_one (ps_for PassesOwn.never rfl (kSeq (K := K) rfl (pe_slice (kSl (K := K) rfl) (pv 0) (po_some pe_int) po_none)) (pg_name (i := 2) nd rfl (Or.inl rfl)) (pss_one (ps_expr (pe_bm PySem.F.plainAttrs_list PySem.F.slot_list_extend PySem.F.type_list_extend mt_extend (pv 1) (pa_cons (pe_has h_names_in hr (by omega) rfl pass0 (pa_cons (pv 2) pa_nil)) pa_nil)))))) pss_nil)
      (pss_one (ps_ret (pv 1)))))), ?_⟩
  have k : Rt K H0 H (.list (s.names.map PyData.str)) Q := k
  cases hS : isT s.enc "str" with
  | true =>
    refine s_yes (et_is (et_b (ev_isi (evd_var d0) (by decide))) hS) x fun H1 e1 => ?_
    refine (k.go e1).ret (x.trans e1) (evd_lst (eds_cons (evd_var d0) eds_nil) (by simp)) ?_
    cases s <;> first | rfl | simp [Sm.enc, isT, tyN] at hS
  | false =>
    refine s_nay (et_is (et_b (ev_isi (evd_var d0) (by decide))) hS) x fun H1 e1 => ?_
    have hnm := s.names_parts hS
    refine s_new (K := K) (i := 1) eds_nil (x.trans e1) fun p H2 hp a => ?_
    have hp0 : H0 p = none := fresh_back (x.trans e1) hp
    have x2 : Ex H0 H2 := a.base
    cases hT : isT s.enc "tuple" with
    | false =>
      refine s_nay (et_is (et_b (ev_isi (evd_var d0) (by decide))) hT) x2 fun H3 e3 => ?_
      refine ⟨_, rfl, Acc.ret k (a.grow e3) (Ex.refl _) (fun _ h _ => h) e1 hp ?_⟩
      cases s <;> first | rfl | (simp [Sm.enc, isT, tyN] at hS hT)
    | true =>
      refine s_yes (et_is (et_b (ev_isi (evd_var d0) (by decide))) hT) x2 fun H3 e3 => ?_
      obtain ⟨w, hw⟩ := s.enc_parts hT
      have d0' : Dt K H0 v0 (.tuple (.str w :: s.parts.map Sm.enc)) := hw ▸ d0
      obtain ⟨m, rfl⟩ : ∃ m, n = m + 1 := by
        cases n with
        | zero =>
          have hd0 : s.depth = 0 := by omega
          cases s <;> first | (simp [Sm.depth] at hd0; done) | (simp [Sm.enc, isT, tyN] at hS hT; done)
        | succ m => exact ⟨m, rfl⟩
      have hl : s.names.length ≤ 729 := Nat.le_trans (names_len s) (Nat.le_trans (Nat.pow_le_pow_right (by omega) h6) (by decide))
      refine s_forT (K := K) (evd_is (evd_slT (evd_var d0') (eo_i (K := K) evd_int) eo_none) (congrArg PyData.tuple (cut_tail _ _))) (x2.trans e3) fun H4 Hd gr => ?_
      have hpd : Hd p = none := gr.fr p hp0 (ne_none e3 (by obtain ⟨acc, q, _⟩ := a.at; rw [q]; exact fun z => nomatch z))
      refine ⟨fun i σ' H' => (∃ o, σ' = [some v0, some (.ref p), o]) ∧ Acc K Hd H1 p (((s.parts.take i).flatMap Sm.names).map PyData.str) H', ⟨⟨none, rfl⟩, ((a.grow e3).grow gr.ex).rebase gr.xd gr.d2 hpd⟩, fun i σ' H' q => q.2.base, ?_, ?_⟩
      · rintro i v d σ' H' hi hv ⟨⟨o, rfl⟩, q⟩
        rw [List.getElem?_map] at hi
        obtain ⟨t, ht, rfl⟩ := Option.map_eq_some_iff.mp hi
        have hm : t ∈ s.parts := List.mem_of_getElem? ht
        have hpd2 := Sm.parts_depth hm
        refine s_ext (K := K) (i := 1) (p := p) rfl q hpd hp (evd_call (eds_cons (evd_var hv) eds_nil) ⟨t, rfl, by omega, by omega, rfl⟩) ?_ fun H5 q5 _ => ⟨⟨_, rfl⟩, ?_⟩
        · rw [List.length_map, List.length_map, ← List.length_append, ← take_flat Sm.names ht]
          have := flat_take_len Sm.names s.parts (i + 1)
          rw [← hnm] at this
          omega
        · rw [take_flat Sm.names ht, List.map_append]
          exact q5
      · rintro σ' H' ⟨⟨o, rfl⟩, q⟩
        refine ⟨_, rfl, Acc.ret k q gr.xd (fun b h0 h1 => gr.fr b h0 (ne_none e3 (ne_none (e1.trans a.1) h1))) e1 hp ?_⟩
        rw [List.length_map, List.take_length, hnm]
theorem all_names_in {f : Addr} {fd : FuncData} (F : FnP K "names_in" "names_in" s_names_in f fd) (g : mg "names_in" = some (.ref f)) (T : Tx mg)  : ∀ n : Nat, HasF P w K mg base CX0 (n + 2) "names_in" ["some"] (spD K (F_names_in n)) f fd
  | 0 => step_names_in F g T 0 (h_names_in := has_never F g (F.bindsN fun _ _ _ _ _ _ us hl => match us, hl with | [_], _ => rfl) _ fun _ _ z => z) 
  | n + 1 => step_names_in F g T (n + 1) (h_names_in := (all_names_in F g T  n).has) 
theorem ok_names_in {f : Addr} {fd : FuncData} (F : FnP K "names_in" "names_in" s_names_in f fd) (g : mg "names_in" = some (.ref f)) (T : Tx mg)  : Has P w K mg base CX0 8 "names_in" ["some"] (spD K (F_names_in 6)) :=
  (all_names_in F g T  6).has
theorem sc_sets_of : FnScope ["source", "row"] ["source"] (defScope s_sets_of) := ⟨rfl, rfl, rfl, by decide +kernel, rfl, by decide +kernel, by decide +kernel⟩
theorem ok_sets_of {f : Addr} {fd : FuncData} (F : FnP K "sets_of" "sets_of" s_sets_of f fd) (g : mg "sets_of" = some (.ref f)) (T : Tx mg)  : Has P w K mg base CX0 1 "sets_of" ["source"] (spD K F_sets_of) := by
  have nd := (sc_sets_of).nd
  refine has_d (FF := F_sets_of) F g (F.bindsN fun _ _ _ _ _ _ us hl => match us, hl with | [_], _ => rfl) sc_sets_of (by rintro _ _ ⟨_, rfl, _⟩; rfl) (fun cdv A outer s H vs Q E ds d H0 hr x hd hf k => ?_)
  obtain ⟨src, rfl, hg, rfl⟩ := hf
  obtain ⟨v0, rfl, d0⟩ := dts1 hd
  refine ⟨_, (pss_one (ps_ret (pe_lc (own := [("row", 1)]) rfl nd (kSeq (K := K) rfl (pv 0)) (blkOk_by (N := ["source", "row"]) (sc := defScope s_sets_of) (own := [("row", 1)]) (by decide +kernel)) (fun _ _ _ _ _ => (pg_name (i := 1) nd rfl (Or.inl rfl))) (fun _ _ _ _ _ => (pts_one (pt_cmpR (kEq (K := K) rfl hr.units) (pe_ix (kIx (K := K) rfl) (pv 1) pe_int (fun _ _ => rfl)) pe_str (nomark _)))) (fun _ _ _ _ _ => (pe_ix (kIx (K := K) rfl) (pv 1) pe_int (fun _ _ => rfl)))))), ?_⟩
  have k : Rt K H0 H (.list ((setsOf src).map PyData.str)) Q := k
  have hl := goodS_len hg
  refine k.ret x (evd_lcT isSetD secondD (evd_var d0) (by rw [List.length_map]; omega) (fun _ => rfl) (fun v d H1 _ hm hv => ?_) fun v d H1 _ hm hs hv => ?_) (congrArg PyData.list (sets_data src))
  · obtain ⟨r, hr, rfl⟩ := List.mem_map.mp hm
    exact et_test (ev_isSet (evd_var hv))
  · obtain ⟨r, hr, rfl⟩ := List.mem_map.mp hm
    cases r with
    | set x s => exact evd_setName (evd_var hv)
    | shw s => rw [isSetD_shw] at hs; cases hs
theorem sc_reads_of : FnScope ["source", "found", "mine", "row", "name"] ["source"] (defScope s_reads_of) := ⟨rfl, rfl, rfl, by decide +kernel, rfl, by decide +kernel, by decide +kernel⟩
theorem ok_reads_of {f : Addr} {fd : FuncData} (F : FnP K "reads_of" "reads_of" s_reads_of f fd) (g : mg "reads_of" = some (.ref f)) (T : Tx mg) (h_names_in : Has P w K mg base CX0 8 "names_in" ["some"] (spD K (F_names_in 6))) : Has P w K mg base CX0 9 "reads_of" ["source"] (spD K F_reads_of) := by
  have nd := (sc_reads_of).nd
  refine has_d (FF := F_reads_of) F g (F.bindsN fun _ _ _ _ _ _ us hl => match us, hl with | [_], _ => rfl) sc_reads_of (by rintro _ _ ⟨_, rfl, _⟩; rfl) (fun cdv A outer s H vs Q E ds d H0 hr x hd hf k => ?_)
  obtain ⟨src, rfl, hg, rfl⟩ := hf
  obtain ⟨v0, rfl, d0⟩ := dts1 hd
  refine ⟨_, (pss_cons (ps_set (i := 1) nd rfl (Or.inl rfl) (pe_lst pa_nil))
      (pss_cons (ps_set (i := 2) nd rfl (Or.inl rfl) (pe_lst pa_nil))
      (pss_cons (ps_for PassesOwn.never rfl (kSeq (K := K) rfl (pv 0)) (pg_name (i := 3) nd rfl (Or.inl rfl)) (pss_cons (ps_for PassesOwn.never rfl (kSeq (K := K) rfl (pe_has h_names_in hr (by omega) rfl pass0 (pa_cons (pe_ix (kIx (K := K) rfl) (pv 3) (pe_un un_neg pe_int) (fun _ _ => rfl)) pa_nil))) (pg_name (i := 4) nd rfl (Or.inl rfl)) (pss_one (ps_if (PW.pt (pw_and (pt_cmpR (kNotIn (K := K) rfl) (pv 4) (pv 2) rfl) (pw_and1 (pt_cmpR (kNotIn (K := K) rfl) (pv 4) (pv 1) rfl)))) (pss_one (ps_expr (pe_bm PySem.F.plainAttrs_list PySem.F.slot_list_append PySem.F.type_list_append mt_append (pv 1) (pa_cons (pv 4) pa_nil)))) pss_nil)))
      (pss_one (ps_if (pt_cmpR (kEq (K := K) rfl hr.units) (pe_ix (kIx (K := K) rfl) (pv 3) pe_int (fun _ _ => rfl)) pe_str (nomark _)) (pss_one (ps_expr (pe_bm PySem.F.plainAttrs_list PySem.F.slot_list_append PySem.F.type_list_append mt_append (pv 2) (pa_cons (pe_ix (kIx (K := K) rfl) (pv 3) pe_int (fun _ _ => rfl)) pa_nil)))) pss_nil))))
      (pss_one (ps_ret (pv 1)))))), ?_⟩
  have k : Rt K H0 H (.list ((readsOf src).map PyData.str)) Q := k
  have hl8 := goodS_len hg
  refine s_asgL (i := 1) (el_lst ea_nil (by simp)) fun p H1 hp e1 h1 => ?_
  refine s_asgL (i := 2) (el_lst ea_nil (by simp)) fun q H2 hq e2 h2 => ?_
  have npq : p ≠ q := fun z => by rw [z] at h1; rw [h1] at hq; cases hq
  have hqH : H q = none := fresh_back e1 hq
  refine s_forT (K := K) (evd_var d0) (x.trans (e1.trans e2)) fun H3 Hd gr => ?_
  have hpd : Hd p = none := gr.fr p (fresh_back x hp) (by rw [e2 _ _ h1]; exact fun z => nomatch z)
  have hqd : Hd q = none := gr.fr q (fresh_back x hqH) (by rw [h2]; exact fun z => nomatch z)
  refine ⟨fun i σ' H' => (∃ o1 o2, σ' = [some v0, some (.ref p), some (.ref q), o1, o2]) ∧ Ex Hd H' ∧ Ex H H' ∧ H' p = some (.lst (((src.take i).foldl readsGo ([], [])).1.map V.str)) ∧ H' q = some (.lst (((src.take i).foldl readsGo ([], [])).2.map V.str)),
    ⟨⟨none, none, rfl⟩, gr.d2, (e1.trans e2).trans gr.ex, gr.ex _ _ (e2 _ _ h1), gr.ex _ _ h2⟩, fun i σ' H' z => z.2.1, ?_, ?_⟩
  · rintro i v d σ' H' hi hv ⟨⟨o1, o2, rfl⟩, xd, xh, fp, fq⟩
    rw [List.getElem?_map] at hi
    obtain ⟨r, hr, rfl⟩ := Option.map_eq_some_iff.mp hi
    have hm : r ∈ src := List.mem_of_getElem? hr
    have gd := goodS_row hg hm
    have gs := Rw.good_sum gd
    have e0 := take_foldl readsGo hr ([], [])
    have hlen := reads_len (src.take i) (fun r hr => goodS_row hg (List.mem_of_mem_take hr)) ([], [])
    have hlen2 := mine_len (src.take i) ([], [])
    have hti : (src.take i).length ≤ 8 := by rw [List.length_take]; omega
    generalize (src.take i).foldl readsGo ([], []) = acc at *
    obtain ⟨fs, ms⟩ := acc
    simp only [List.length_nil] at hlen hlen2
    have hn : r.sum.names.length ≤ 729 := Nat.le_trans (names_len _) (Nat.le_trans (Nat.pow_le_pow_right (by omega) gs.2) (by decide))
    refine s_forL (K := K) (evd_call (eds_cons (evd_last (evd_var hv)) eds_nil) ⟨r.sum, rfl, gs.2, gs.2, rfl⟩) xd fun H4 Hd' gr' => ?_
    have hpd' : Hd' p = none := gr'.fr p hpd (by rw [fp]; exact fun z => nomatch z)
    have hqd' : Hd' q = none := gr'.fr q hqd (by rw [fq]; exact fun z => nomatch z)
    refine ⟨fun j σ' H' => (∃ o2, σ' = [some v0, some (.ref p), some (.ref q), some v, o2]) ∧ Ex Hd' H' ∧ Ex Hd H' ∧ Ex H H' ∧ H' p = some (.lst (((r.sum.names.take j).foldl (addName ms) fs).map V.str)) ∧ H' q = some (.lst (ms.map V.str)),
      ⟨⟨o2, rfl⟩, gr'.d2, xd.trans gr'.ex, xh.trans gr'.ex, gr'.ex _ _ fp, gr'.ex _ _ fq⟩, fun i σ' H' z => z.2.1, ?_, ?_⟩
    · rintro j v2 d2 σ' H5 hj hv2 ⟨⟨o2, rfl⟩, xd', xd5, xh5, fp5, fq5⟩
      rw [List.getElem?_map] at hj
      obtain ⟨y, hy, rfl⟩ := Option.map_eq_some_iff.mp hj
      have ey := dp_str hv2
      subst ey
      have e1 := take_foldl (addName ms) hy fs
      have hlj := foldl_addName_len ms (r.sum.names.take j) fs
      have htj : (r.sum.names.take j).length ≤ 729 := by rw [List.length_take]; omega
      generalize (r.sum.names.take j).foldl (addName ms) fs = gs2 at *
      have dm : Dt K H5 (.ref q) (.list (ms.map PyData.str)) := .lst fq5 (dt_strs ms)
      have df : Dt K H5 (.ref p) (.list (gs2.map PyData.str)) := .lst fp5 (dt_strs gs2)
      refine s_ifD (H0 := H5) (b := !decide (y ∈ ms) && !decide (y ∈ gs2)) (et_is (et_and (et_test (ev_inL (neg := true) (evd_var (.str y)) (evd_var dm) rfl (flat_strs _))) fun _ => et_test (ev_inL (neg := true) (evd_var (.str y)) (evd_var df) rfl (flat_strs _))) ?_) (Ex.refl _) (fun hb H6 e6 => ?_) fun hb H6 e6 => ?_
      · rw [inD_strs, inD_strs] <;> rfl
      · have hb2 : ¬ (y ∈ ms ∨ y ∈ gs2) := by simpa using hb
        have ea : addName ms gs2 y = gs2 ++ [y] := if_neg hb2
        refine Evl.s_app (l := p) (xs := gs2.map V.str) (e6 _ _ fp5) (ev_var rfl) (ev_var rfl) (by rw [List.length_map]; omega) fun H7 e7 => ?_
        refine ⟨⟨_, rfl⟩, ex_upd (xd'.trans (e6.trans e7)) hpd', ex_upd (xd5.trans (e6.trans e7)) hpd, Ex.mut (xh5.trans (e6.trans e7)) hp, ?_, ?_⟩
        · rw [e1, ea, upd_same, List.map_append] <;> rfl
        · rw [upd_ne npq.symm]
          exact e7 _ _ (e6 _ _ fq5)
      · have hb2 : y ∈ ms ∨ y ∈ gs2 := by
          rw [Bool.and_eq_false_iff] at hb
          simpa using hb
        have ea : addName ms gs2 y = gs2 := if_pos hb2
        refine ⟨⟨_, rfl⟩, xd'.trans e6, xd5.trans e6, xh5.trans e6, ?_, e6 _ _ fq5⟩
        rw [e1, ea]
        exact e6 _ _ fp5
    · rintro σ' H5 ⟨⟨o2, rfl⟩, xd', xd5, xh5, fp5, fq5⟩
      rw [List.length_map, List.take_length] at fp5
      refine s_ifD (b := isSetD r.enc) (et_test (ev_isSet (evd_var hv))) xd5 (fun hb H6 e6 => ?_) fun hb H6 e6 => ?_
      · cases r with
        | shw s => rw [isSetD_shw] at hb; cases hb
        | set z s =>
          refine Evl.s_app (H := H6) (l := q) (xs := ms.map V.str) (v := .str z) (e6 _ _ fq5) (ev_var rfl) (ev_str (K := K) (evd_setName (s := s) (evd_var (dp_ex (xd5.trans e6) _ _ hv)))) (by rw [List.length_map]; omega) fun H7 e7 => ?_
          refine ⟨⟨_, _, rfl⟩, ex_upd (xd5.trans (e6.trans e7)) hqd, Ex.mut (xh5.trans (e6.trans e7)) hqH, ?_, ?_⟩
          · rw [upd_ne npq, e0]
            exact e7 _ _ (e6 _ _ fp5)
          · rw [upd_same, e0, readsGo_eq]
            show some (HO.lst (ms.map V.str ++ [V.str z])) = some (HO.lst ((ms ++ [z]).map V.str))
            rw [List.map_append] <;> rfl
      · cases r with
        | set z s => rw [isSetD_set] at hb; cases hb
        | shw s =>
          refine ⟨⟨_, _, rfl⟩, xd5.trans e6, xh5.trans e6, ?_, ?_⟩
          · rw [e0]
            exact e6 _ _ fp5
          · rw [e0, readsGo_eq]
            show H6 q = some (HO.lst ((ms ++ []).map V.str))
            rw [List.append_nil]
            exact e6 _ _ fq5
  · rintro σ' H' ⟨⟨o1, o2, rfl⟩, xd, xh, fp, fq⟩
    rw [List.length_map, List.take_length] at fp
    exact ⟨_, rfl, flat_ret k x xh hp fp (dt_strs _) rfl⟩
theorem sc_Failed_init : FnScope ["self", "word", "name"] ["self", "word", "name"] (defScope s_Failed_init) := ⟨rfl, rfl, rfl, by decide +kernel, rfl, by decide +kernel, by decide +kernel⟩
theorem ok_Failed_init {f C : Addr} {fd : FuncData} (OC : OexC K C) (NW : PySem.W.findIn K (.ref C) "why" = some none) (F : FnP K "__init__" "Failed.__init__" s_Failed_init f fd) (T : Tx mg) : HasFail P w K mg base C f := by
  have nd := (sc_Failed_init).nd
  refine hasFail_of F (F.bindsN fun _ _ _ _ _ _ us hl => match us, hl with | [_, _, _], _ => rfl) sc_Failed_init (fun cdv A outer s H vs Q E hr h => ?_)
  obtain ⟨a, w0, x0, rfl, ha, k⟩ := h
  refine ⟨_, (pss_cons (ps_expr (kVei (K := K) rfl rfl (T.free (by decide)) (pa_cons (pv 0) (pa_cons (pv 1) pa_nil))))
      (pss_one (kOst (K := K) rfl (pv 0) (pe_tup (pa_cons (pv 1) (pa_cons (pv 2) pa_nil)))))), ?_⟩
  refine ⟨.ref a, rfl, w0, rfl, a, C, [w0], rfl, by show 1 ≤ 1000; decide, OC, ha, ?_⟩
  refine ⟨w0, rfl, x0, rfl, sz_of (by show 2 ≤ 100000; decide), fun t ht => ?_⟩
  have hta : t ≠ a := fun z => by rw [z, ha] at ht; cases ht
  refine ⟨.ref a, rfl, a, C, rfl, OC, NW, .inl ⟨by rw [upd_ne (Ne.symm hta)]; exact ha, fun d hd hda => ?_⟩⟩
  have hdt : d ≠ t := fun z => by rw [z, upd_same] at hd; cases hd
  rw [upd_ne hdt] at hd
  exact k d t hd ht hdt
theorem sc_reckoned : FnScope ["word", "one", "other"] ["word", "one", "other"] (defScope s_reckoned) := ⟨rfl, rfl, rfl, by decide +kernel, rfl, by decide +kernel, by decide +kernel⟩
theorem ok_reckoned {f : Addr} {fd : FuncData}  (F : FnP K "reckoned" "reckoned" s_reckoned f fd) (g : mg "reckoned" = some (.ref f)) (T : Tx mg) {c_Failed f_Failed : Addr} (XF : FailF K mg c_Failed f_Failed) (h_Failed : HasFail P w K mg base c_Failed f_Failed) (m_ROUND : ∃ t, mg "ROUND" = some (.int 10000 t)) : Has P w K mg base (L2.CX P w) 4 "reckoned" ["word", "one", "other"] (spReck K c_Failed) := by
  have nd := (sc_reckoned).nd
  refine has_x F g (F.bindsN fun _ _ _ _ _ _ us hl => match us, hl with | [_, _, _], _ => rfl) sc_reckoned (by rintro _ _ _ _ ⟨_, _, _, _, rfl, _⟩; rfl) (fun cdv A outer s H vs Q E hr h => ?_)
  obtain ⟨w0, i, j, B, rfl, hw, hi, hj, x, k1, k2⟩ := h
  refine ⟨_, (pss_cons (ps_if (pt_cmpR (kEq (K := K) rfl hr.units) (pv 0) pe_str (nomark _)) (pss_one (ps_ret (pe_op op_mod (pe_op (kAdd (K := K) rfl) (pv 1) (pv 2)) (pe_gint m_ROUND)))) pss_nil)
      (pss_cons (ps_if (pt_cmpR (kEq (K := K) rfl hr.units) (pv 0) pe_str (nomark _)) (pss_one (ps_ret (pe_op op_mod (pe_op op_sub (pv 1) (pv 2)) (pe_gint m_ROUND)))) pss_nil)
      (pss_cons (ps_if (pt_cmpR (kEq (K := K) rfl hr.units) (pv 0) pe_str (nomark _)) (pss_one (ps_ret (pe_op op_mod (pe_op (kMul (K := K) rfl) (pv 1) (pv 2)) (pe_gint m_ROUND)))) pss_nil)
      (pss_cons (ps_if (pt_cmpR (kEq (K := K) rfl hr.units) (pv 0) pe_str (nomark _)) (pss_one (ps_ret (pe_callTy call_int1 rfl (T.free (by decide)) boot_int (pa_cons (pe_cmpR (kEq (K := K) rfl hr.units) (pv 1) (pv 2) (nomark _)) pa_nil)))) pss_nil)
      (pss_cons (ps_if (pt_cmpR (kEq (K := K) rfl hr.units) (pv 2) pe_int (nomark _)) (pss_one (ps_raise rfl (takes_of rfl rfl rfl rfl) (pmk_fail (K := K) rfl XF h_Failed hr (by omega) rfl (pa_cons pe_str (pa_cons pe_non pa_nil))))) pss_nil)
      (pss_one (ps_ret (pe_op op_fdiv (pv 1) (pv 2))))))))), ?_⟩
  have sw := shapedS (ok_word hw)
  have go : ∀ (z : Str) {H1 : Hp}, SeqAt.shaped (.str z) = true → EvT (tTest (tOp (rEqD K) (tVar 0) (tC (.str z)))) (start ["word", "one", "other"] [.str w0, .int i, .int j]) H1 (decide (w0 = z)) := fun z {H1} sz =>
    et_is (et_test (ev_eq (K := K) (evd_var (.str w0)) evd_str sw sz)) (by show (w0 == z) = _; rfl)
  obtain ⟨hi0, hi1⟩ := hi
  obtain ⟨hj0, hj1⟩ := hj
  have m0 : (0 : Int) < 10000 := by decide
  refine s_ifN (H0 := H) (go "add" (by decide +kernel)) (Ex.refl _) (fun hb H1 e1 => ?_) fun hb H1 e1 => ?_
  · have hb := of_decide_eq_true hb
    refine s_ret (ev_I (K := K) (C := fun _ j => 0 < j) (g := fun i j => .int (i % j)) (ev_addI (evd_var (.int i)) (evd_var (.int j))) evd_int m0) fun H2 e2 => k1 _ ?_ H2 (e1.trans e2)
    unfold reck
    rw [if_pos hb]
  have n1 := of_decide_eq_false hb
  refine s_ifN (H0 := H1) (go "less" (by decide +kernel)) (Ex.refl _) (fun hb H2 e2 => ?_) fun hb H2 e2 => ?_
  · have hb := of_decide_eq_true hb
    refine s_ret (ev_I (K := K) (C := fun _ j => 0 < j) (g := fun i j => .int (i % j)) (evd_i (ev_I0 (K := K) (evd_var (.int i)) (evd_var (.int j)))) evd_int m0) fun H3 e3 => k1 _ ?_ H3 ((e1.trans e2).trans e3)
    unfold reck
    rw [if_neg n1, if_pos hb]
  have n2 := of_decide_eq_false hb
  refine s_ifN (H0 := H2) (go "times" (by decide +kernel)) (Ex.refl _) (fun hb H3 e3 => ?_) fun hb H3 e3 => ?_
  · have hb := of_decide_eq_true hb
    refine s_ret (ev_I (K := K) (C := fun _ j => 0 < j) (g := fun i j => .int (i % j)) (evd_mulI (evd_var (.int i)) (evd_var (.int j)) (.inl ⟨by omega, by omega⟩)) evd_int m0) fun H4 e4 => k1 _ ?_ H4 (((e1.trans e2).trans e3).trans e4)
    unfold reck
    rw [if_neg n1, if_neg n2, if_pos hb]
  have n3 := of_decide_eq_false hb
  refine s_ifN (H0 := H3) (go "same" (by decide +kernel)) (Ex.refl _) (fun hb H4 e4 => ?_) fun hb H4 e4 => ?_
  · have hb := of_decide_eq_true hb
    refine s_ret (ev_intB (ev_eq (K := K) (evd_var (.int i)) (evd_var (.int j)) rfl rfl)) fun H5 e5 => k1 _ ?_ H5 ((((e1.trans e2).trans e3).trans e4).trans e5)
    unfold reck
    rw [if_neg n1, if_neg n2, if_neg n3, if_pos hb]
    show Except.ok (if i = j then 1 else 0) = Except.ok (if (i == j) = true then 1 else 0)
    simp
  have n4 := of_decide_eq_false hb
  have X4 := ((e1.trans e2).trans e3).trans e4
  dsimp only
  refine s_ifN (H0 := H4) (b := decide (j = 0)) (et_is (et_test (ev_eq (K := K) (evd_var (.int j)) evd_int rfl rfl)) (by show (j == 0) = _; rfl)) (Ex.refl _) (fun hb H5 e5 => ?_) fun hb H5 e5 => ?_
  · have hb := of_decide_eq_true hb
    have ee : reck w0 i j = .error ("over", none) := by
      unfold reck
      rw [if_neg n1, if_neg n2, if_neg n3, if_neg n4, if_pos hb]
    refine x_fail (K := K) (B := B) (y := ("over", none)) (x.trans (X4.trans e5)) ev_c (evd_non.toB (x.trans (X4.trans e5))) fun d tv H' B' h0 g => k2 _ ee d tv H' B' (fresh_back (X4.trans e5) h0) (g.after (X4.trans e5))
  have n5 := of_decide_eq_false hb
  dsimp only
  refine s_ret (ev_I (K := K) (C := CDiv) (g := fun i j => .int (i / j)) (evd_var (.int i)) (evd_var (.int j)) ⟨by omega, by omega⟩) fun H6 e6 => k1 _ ?_ H6 ((X4.trans e5).trans e6)
  unfold reck
  rw [if_neg n1, if_neg n2, if_neg n3, if_neg n4, if_neg n5]
theorem sc_worth : FnScope ["some", "mine", "ask", "one"] ["some", "mine", "ask"] (defScope s_worth) := ⟨rfl, rfl, rfl, by decide +kernel, rfl, by decide +kernel, by decide +kernel⟩
theorem ok_worth {f : Addr} {fd : FuncData} {mk : NdefX.NF → Prop} {fr : List Str} {sp : List V → Sp} {c_Failed : Addr} {e dA n : Nat} (Fn : ∀ f F, mk F → NOkR P w K mg base (L2.CX P w) dA f F ["name"] fr sp) (hdA : dA ≤ e) (h_reckoned : Has P w K mg base (L2.CX P w) 4 "reckoned" ["word", "one", "other"] (spReck K c_Failed)) (h_worth : HasR P w K mg base (L2.CX P w) e "worth" ["some", "mine", "ask"] (spWorth K c_Failed mk fr sp n)) (F : FnP K "worth" "worth" s_worth f fd) (g : mg "worth" = some (.ref f)) (T : Tx mg) : HasR P w K mg base (L2.CX P w) (e + 1) "worth" ["some", "mine", "ask"] (spWorth K c_Failed mk fr sp (n + 1)) := by
  have nd := (sc_worth).nd
  refine hasR_x F g (F.bindsN fun _ _ _ _ _ _ us hl => match us, hl with | [_, _, _], _ => rfl) sc_worth (by rintro _ _ _ _ ⟨_, _, _, _, _, _, _, _, _, _, _, _, rfl, _⟩; rfl) (fun cdv A outer s H vs Q E hR h => ?_)
  have hr := hR.room18
  obtain ⟨S, J, step, fa, pm, v, m, mine, M, B, s0, Nm, rfl, AS, hNm, j0, w0, hm, dv, hg, hd, k1, k2⟩ := h
  have x := AS.x j0
  have dH := dp_ex x _ _ dv
  refine ⟨_, (pss_cons (ps_if (kTruth (K := K) rfl (pe_callB (kIsi (K := K) rfl) rfl (T.free (by decide)) boot_isinstance (pa_cons (pv 0) (pa_cons (pe_bltn (v := .ty "str") rfl (T.free (by decide)) boot_str rfl) pa_nil)))) (pss_one (ps_ret (pe_ifExp (pt_cmp (pc_din (Nat.lt_of_le_of_lt (Nat.add_le_add_left (by decide) _) hr.units) (pv 0) (pv 1))) (pe_dget (Nat.lt_of_le_of_lt (Nat.add_le_add_left (by decide) _) hr.units) (pv 1) (pv 0) (fun _ _ => rfl)) (pe_callC (i := 2) Fn cxBack hR (by omega) (passA (passes_call (takes_of rfl rfl rfl rfl) fun _ _ _ _ h => h)) rfl (by first | exact Or.inl rfl | exact Or.inr (Or.inl rfl) | exact Or.inr (Or.inr rfl)) (pa_cons (pv 0) pa_nil))))) pss_nil)
      (pss_cons (ps_if (pt_not (kTruth (K := K) rfl (pe_callB (kIsi (K := K) rfl) rfl (T.free (by decide)) boot_isinstance (pa_cons (pv 0) (pa_cons (pe_bltn (v := .ty "tuple") rfl (T.free (by decide)) boot_tuple rfl) pa_nil))))) (pss_one (ps_ret (pv 0))) pss_nil)
      (pss_cons (ps_set (i := 3) nd rfl (Or.inl rfl) (pe_hasR h_worth hR (by omega) rfl (passA (passes_call (takes_of rfl rfl rfl rfl) fun _ _ _ _ h => h)) (pa_cons (pe_ix (kIx (K := K) rfl) (pv 0) pe_int (fun _ _ => rfl)) (pa_cons (pv 1) (pa_cons (pv 2) pa_nil)))))
      (pss_cons (ps_if (pt_cmpR (kEq (K := K) rfl hr.units) (pe_ix (kIx (K := K) rfl) (pv 0) pe_int (fun _ _ => rfl)) pe_str (nomark _)) (pss_one (ps_ret (pe_hasR h_worth hR (by omega) rfl (passA (passes_call (takes_of rfl rfl rfl rfl) fun _ _ _ _ h => h)) (pa_cons (pe_ix (kIx (K := K) rfl) (pv 0) (pe_op (kAdd (K := K) rfl) pe_int (pe_callTy call_int1 rfl (T.free (by decide)) boot_int (pa_cons (pe_cmpR (kEq (K := K) rfl hr.units) (pv 3) pe_int (nomark _)) pa_nil))) (fun _ _ => rfl)) (pa_cons (pv 1) (pa_cons (pv 2) pa_nil)))))) pss_nil)
      (pss_one (ps_ret (pe_has h_reckoned hr (by omega) rfl (passes_call (takes_of rfl rfl rfl rfl) fun _ _ _ _ h => h) (pa_cons (pe_ix (kIx (K := K) rfl) (pv 0) pe_int (fun _ _ => rfl)) (pa_cons (pv 3) (pa_cons (pe_hasR h_worth hR (by omega) rfl (passA (passes_call (takes_of rfl rfl rfl rfl) fun _ _ _ _ h => h)) (pa_cons (pe_ix (kIx (K := K) rfl) (pv 0) pe_int (fun _ _ => rfl)) (pa_cons (pv 1) (pa_cons (pv 2) pa_nil)))) pa_nil)))))))))), ?_⟩
  cases m with
  | num i =>
    refine s_skip (H0 := H) (et_is (et_b (ev_isi (K := K) (evd_var dH) (by decide))) rfl) (Ex.refl _) fun H1 e1 => ?_
    dsimp only
    refine s_yes (H0 := H1) (et_not (a := false) (et_is (et_b (ev_isi (K := K) (evd_var (dp_ex e1 _ _ dH)) (by decide))) rfl)) (Ex.refl _) fun H2 e2 => ?_
    have ei := dp_int dv
    subst ei
    refine s_ret (ev_var rfl) fun H3 e3 => ?_
    have X3 := (e1.trans e2).trans e3
    exact k1 i s0 rfl H3 B M (Fr.of (Gr.base x X3)) (AS.ex j0 X3)
  | nm z =>
    have ei := dp_str dv
    subst ei
    have hz : nameS z = true := hg
    refine s_yes (H0 := H) (et_is (et_b (ev_isi (K := K) (evd_var dH) (by decide))) rfl) (Ex.refl _) fun H1 e1 => ?_
    have w1 := w0.ex e1
    cases hl : mine.lookup z with
    | some i =>
      have hv : valV (encM mine) (.inr z) = some (.int i) := by rw [encM_val, hl]; rfl
      refine x_if (b := true) (H0 := H1) (et_is (et_B (ev_din (k := .inr z) (ev_var rfl) (ev_var rfl) w1.h)) (by rw [hv]; rfl)) (Ex.refl _) (fun _ H2 e2 => ?_) fun hb => nomatch hb
      refine ev_dget (k := .inr z) (ev_var rfl) (ev_var rfl) (w1.ex e2).h hv H2 (Ex.refl _) _ fun H3 e3 => ?_
      have X3 := (e1.trans e2).trans e3
      exact k1 i s0 (worthM_nm hl) H3 B M (Fr.of (Gr.base x X3)) (AS.ex j0 X3)
    | none =>
      have hv : valV (encM mine) (.inr z) = none := by rw [encM_val, hl]; rfl
      refine x_if (b := false) (H0 := H1) (et_is (et_B (ev_din (k := .inr z) (ev_var rfl) (ev_var rfl) w1.h)) (by rw [hv]; rfl)) (Ex.refl _) (fun hb => nomatch hb) fun _ H2 e2 => ?_
      have X2 := e1.trans e2
      have f2 : Fr M M B H H2 B := Fr.of (Gr.base x X2)
      exact t_ask rfl rfl (AS.call (AS.ex j0 X2) (hNm z (by simp [Sm.names])) (fun i s1 e H' B' M' f jj => k1 i s1 (worthM_ask hl e) H' B' M' (f2.trans f) jj) fun s1 e => (k2 _ s1 (worthM_lack hl e)).after f2)
  | op ww a b =>
    have g2 : (decide (ww ∈ wordsS) && (a.good && b.good)) = true := by unfold Sm.good at hg; exact hg
    simp only [Bool.and_eq_true, decide_eq_true_eq] at g2
    obtain ⟨hw, ga, gb⟩ := g2
    have hda : a.depth < n ∧ b.depth < n := by unfold Sm.depth at hd; omega
    refine s_skip (H0 := H) (et_is (et_b (ev_isi (K := K) (evd_var dH) (by decide))) rfl) (Ex.refl _) fun H1 e1 => ?_
    dsimp only
    refine s_skip (H0 := H1) (et_not (a := true) (et_is (et_b (ev_isi (K := K) (evd_var (dp_ex e1 _ _ dH)) (by decide))) rfl)) (Ex.refl _) fun H2 e2 => ?_
    have X2 := e1.trans e2
    have x2 := x.trans X2
    have f2 : Fr M M B H H2 B := Fr.of (Gr.base x X2)
    dsimp only
    refine s_worthA AS rfl rfl ((evd_ixT (K := K) (evd_var dv) evd_int (atI_1 _ _ _)).toB x2) (AS.ex j0 X2) (w0.ex X2) hm (fun x hx => hNm x (by simp [Sm.names, hx])) ga hda.1 (fun i s1 ea H3 B3 M3 f3 j3 => ?_) fun y s1 ea => (k2 y s1 (worthM_opE ea)).after f2
    have x3 := AS.x j3
    have dv3 := dp_ex f3.xd _ _ dv
    have w3 := (w0.ex X2).thru f3
    have hi := worthM_in step mine (fun s x i s1 h => AS.rng h) hm a s0 i s1 ga ea
    dsimp only
    refine s_skip (H0 := B3) (et_is (et_test (ev_eq (K := K) (evd_ixT (evd_var dv3) evd_int (atI_0 _ _)) evd_str (shapedS (ok_word hw)) (shapedS ok_if))) ?_) x3 fun H4 e4 => ?_
    · show (ww == ("if" : Str)) = false
      exact beq_false_of_ne fun z => noIf (z ▸ hw)
    have x4 := x3.trans e4
    dsimp only
    refine t_reckW (ev_str ((evd_ixT (K := K) (H := H4) (evd_var (dp_ex x4 _ _ dv3)) evd_int (atI_0 _ _)))) (ev_var rfl) fun H5 e5 => ?_
    have X5 := e4.trans e5
    have f5 : Fr M M3 B H H5 B3 := f2.trans (f3.trans (Fr.of (Gr.base x3 X5)))
    refine t_worth AS rfl rfl ((evd_ixT (K := K) (evd_var dv3) evd_int (atI_2 _ _ _ _)).toB (x3.trans X5)) (AS.ex j3 X5) (w3.ex X5) hm (fun x hx => hNm x (by simp [Sm.names, hx])) gb hda.2 (fun j s2 eb H6 B6 M6 f6 j6 => ?_) fun y s2 eb => (k2 y s2 (worthM_opE2 ea eb)).after f5
    have hj := worthM_in step mine (fun s x i s1 h => AS.rng h) hm b s1 j s2 gb eb
    have x6 := AS.x j6
    refine ⟨ww, i, j, B6, rfl, hw, hi, hj, x6, fun r hr H' e' => ?_, fun y hy => ?_⟩
    · exact k1 r s2 (by rw [worthM_op ea eb, hr]) H' B6 M6 ((f5.trans f6).trans (Fr.of (Gr.base x6 e'))) (AS.ex j6 e')
    · exact FailB.of AS j6 ((k2 y s2 (by rw [worthM_op ea eb, hy])).after (f5.trans f6))
  | ite a b c =>
    have g2 : (a.good && (b.good && c.good)) = true := by unfold Sm.good at hg; exact hg
    simp only [Bool.and_eq_true] at g2
    obtain ⟨ga, gb, gc⟩ := g2
    have hda : a.depth < n ∧ b.depth < n ∧ c.depth < n := by unfold Sm.depth at hd; omega
    refine s_skip (H0 := H) (et_is (et_b (ev_isi (K := K) (evd_var dH) (by decide))) rfl) (Ex.refl _) fun H1 e1 => ?_
    dsimp only
    refine s_skip (H0 := H1) (et_not (a := true) (et_is (et_b (ev_isi (K := K) (evd_var (dp_ex e1 _ _ dH)) (by decide))) rfl)) (Ex.refl _) fun H2 e2 => ?_
    have X2 := e1.trans e2
    have x2 := x.trans X2
    have f2 : Fr M M B H H2 B := Fr.of (Gr.base x X2)
    dsimp only
    refine s_worthA AS rfl rfl ((evd_ixT (K := K) (evd_var dv) evd_int (atI_1 _ _ _)).toB x2) (AS.ex j0 X2) (w0.ex X2) hm (fun x hx => hNm x (by simp [Sm.names, hx])) ga hda.1 (fun i s1 ea H3 B3 M3 f3 j3 => ?_) fun y s1 ea => (k2 y s1 (worthM_iteE ea)).after f2
    have x3 := AS.x j3
    have dv3 := dp_ex f3.xd _ _ dv
    have w3 := (w0.ex X2).thru f3
    dsimp only
    refine s_yes (H0 := B3) (et_is (et_test (ev_eq (K := K) (evd_ixT (evd_var dv3) evd_int (atI_0 _ _)) evd_str (shapedS ok_if) (shapedS ok_if))) (by decide +kernel)) x3 fun H4 e4 => ?_
    have x4 := x3.trans e4
    have f4 : Fr M M3 B H H4 B3 := f2.trans (f3.trans (Fr.of (Gr.base x3 e4)))
    have ix : EvD K (tOp (rAddU K) (tC (.int 2)) (tCB (fun xs H Q => (∃ i, xs = [.int i] ∧ Q (.int i) H) ∨ ∃ k, xs = [.bl k] ∧ Q (.int (if k then 1 else 0)) H) (tCons (tOp (rEqD K) (tVar 3) (tC (.int 0))) tNil))) (List.set (start ["some", "mine", "ask", "one"] [v, V.ref pm, V.ref fa]) 3 (some (V.int i))) B3 (.int (2 + if (i == 0) = true then 1 else 0)) := ev_addI evd_int (evd_i (ev_intB (ev_eq (K := K) (evd_var (.int i)) evd_int rfl rfl)))
    by_cases hi0 : i = 0
    · have hat : atI [PyData.str "if", a.enc, b.enc, c.enc] (2 + if (i == 0) = true then 1 else 0) = some c.enc := by
        rw [if_pos (by simp [hi0])]
        exact atI_3 _ _ _ _ _
      refine s_worthR AS rfl rfl ((evd_ixT (K := K) (evd_var dv3) ix hat).toB x4) (AS.ex j3 e4) (w3.ex e4) hm (fun x hx => hNm x (by simp [Sm.names, hx])) gc hda.2.2 (fun j s2 eb H6 B6 M6 f6 j6 => ?_) fun y s2 eb => (k2 y s2 (by rw [worthM_ite ea, if_pos hi0, eb])).after f4
      exact k1 j s2 (by rw [worthM_ite ea, if_pos hi0, eb]) H6 B6 M6 (f4.trans f6) j6
    · have hat : atI [PyData.str "if", a.enc, b.enc, c.enc] (2 + if (i == 0) = true then 1 else 0) = some b.enc := by
        rw [if_neg (by simp [hi0])]
        exact atI_2 _ _ _ _
      refine s_worthR AS rfl rfl ((evd_ixT (K := K) (evd_var dv3) ix hat).toB x4) (AS.ex j3 e4) (w3.ex e4) hm (fun x hx => hNm x (by simp [Sm.names, hx])) gb hda.2.1 (fun j s2 eb H6 B6 M6 f6 j6 => ?_) fun y s2 eb => (k2 y s2 (by rw [worthM_ite ea, if_neg hi0, eb])).after f4
      exact k1 j s2 (by rw [worthM_ite ea, if_neg hi0, eb]) H6 B6 M6 (f4.trans f6) j6
theorem sc_done : FnScope ["source", "ask", "mine", "found", "why", "row", "number", "failed"] ["source", "ask"] (defScope s_done) := ⟨rfl, rfl, rfl, by decide +kernel, rfl, by decide +kernel, by decide +kernel⟩
theorem ok_done {f : Addr} {fd : FuncData} {mk : NdefX.NF → Prop} {fr : List Str} {sp : List V → Sp} {e n : Nat} (hn : 6 < n) {c_Failed f_Failed : Addr} (XF : FailF K mg c_Failed f_Failed) (h_Failed : HasFail P w K mg base c_Failed f_Failed) (h_worth : HasR P w K mg base (L2.CX P w) e "worth" ["some", "mine", "ask"] (spWorth K c_Failed mk fr sp n)) (F : FnP K "done" "done" s_done f fd) (g : mg "done" = some (.ref f)) (T : Tx mg) : HasR P w K mg base CX0 (e + 1) "done" ["source", "ask"] (spDone K c_Failed mk fr sp) := by
  have nd := (sc_done).nd
  refine hasR_p F g (F.bindsN fun _ _ _ _ _ _ us hl => match us, hl with | [_, _], _ => rfl) sc_done (by rintro _ _ _ _ ⟨_, _, _, _, _, _, _, _, _, _, rfl, _⟩; rfl) (fun cdv A outer s H vs Q E hR h => ?_)
  have hr := hR.room18
  obtain ⟨S, J, step, fa, v, src, M, B, s0, Nm, rfl, AS, hNm, j0, dv, hg, k1⟩ := h
  have x := AS.x j0
  refine ⟨_, (pss_cons (ps_set (i := 2) nd rfl (Or.inl rfl) pe_dnewK)
      (pss_cons (ps_set (i := 3) nd rfl (Or.inl rfl) (pe_lst pa_nil))
      (pss_cons (ps_set (i := 4) nd rfl (Or.inl rfl) pe_non)
      (pss_cons (ps_try_as (i := 7) rfl rfl nd rfl rfl ⟨rfl, by decide, Or.inl XF.g⟩ takes0 (fun W pn xe tk po => (pss_one (ps_for po rfl (kSeq (K := K) rfl (pv 0)) (pg_name (i := 5) nd rfl (Or.inl rfl)) (pss_cons (ps_set (i := 6) nd rfl (Or.inl rfl) (pe_hasR h_worth hR (by omega) rfl (fun σ => passAt tk σ) (pa_cons (pe_ix (kIx (K := K) rfl) (pv 5) (pe_un un_neg pe_int) (fun _ _ => rfl)) (pa_cons (pv 2) (pa_cons (pv 1) pa_nil)))))
      (pss_one (ps_if (pt_cmpR (kEq (K := K) rfl hr.units) (pe_ix (kIx (K := K) rfl) (pv 5) pe_int (fun _ _ => rfl)) pe_str (nomark _)) (pss_one (ps_dput (Nat.lt_of_le_of_lt (Nat.add_le_add_left (by decide) _) hr.units) (pv 2) (pe_ix (kIx (K := K) rfl) (pv 5) pe_int (fun _ _ => rfl)) (pv 6) rfl)) (pss_one (ps_expr (kBm (K := K) rfl PySem.F.plainAttrs_list PySem.F.slot_list_append PySem.F.type_list_append mt_append (pv 3) (pa_cons (pv 6) pa_nil)))))))))) (fun a_x oe_x cls_x d_x pn_x hz hf => (pss_cons (ps_set (i := 4) nd rfl (Or.inl rfl) (pe_xf XF.x XF.n hz hf (pv 7)))
      (pss_one (ps_set (i := 2) nd rfl (Or.inl rfl) pe_dnewK)))))
      (pss_one (ps_ret (pe_tup (pa_cons (pv 3) (pa_cons (pv 2) (pa_cons (pv 4) pa_nil)))))))))), ?_⟩
  have hl8 := goodS_len hg
  refine s_dnew fun pm hpm => ?_
  dsimp only
  refine s_lnew fun pf hpf => ?_
  have e1 : Ex H (upd H pm (.dK [])) := Ex.new hpm
  have e2 : Ex (upd H pm (.dK [])) (upd (upd H pm (.dK [])) pf (.lst [])) := Ex.new hpf
  have nfm : pf ≠ pm := fun z => by rw [z, upd_same] at hpf; cases hpf
  have hpf0 : H pf = none := by rw [upd_ne nfm] at hpf; exact hpf
  have X2 := e1.trans e2
  have hpm2 : upd (upd H pm (.dK [])) pf (.lst []) pm = some (.dK []) := by rw [upd_ne (Ne.symm nfm)]; exact upd_same
  have hpf2 : upd (upd H pm (.dK [])) pf (.lst []) pf = some (.lst []) := upd_same
  generalize upd (upd H pm (.dK [])) pf (.lst []) = H2 at *
  dsimp only
  refine s_asg ev_c fun H3 e3 => ?_
  have X3 := X2.trans e3
  have f3 : Fr M M B H H3 B := Fr.of (Gr.base x X3)
  have j3 := AS.ex j0 X3
  have nM : ∀ {p : Addr}, H p = none → ¬ M p := fun h z => (AS.m j0 _ z).2 h
  have om : Own M B H3 pm (.dK (encM [])) := ⟨e3 _ _ hpm2, fresh_back x hpm, nM hpm⟩
  have of : Own M B H3 pf (.lst (([] : List Int).map V.int)) := ⟨e3 _ _ hpf2, fresh_back x hpf0, nM hpf0⟩
  dsimp only
  refine s_seqP (fun σ' H' => ∃ r s1 M' B' pm' wv o5 o6, σ' = [some v, some (.ref fa), some (.ref pm'), some (.ref pf), some wv, o5, o6, none] ∧ doneM step src [] [] s0 = (r, s1) ∧ Fr M M' B H H' B' ∧ J s1 M' B' H' ∧ Own M' B' H' pf (.lst (r.shown.map V.int)) ∧ Own M' B' H' pm' (.dK (encM r.mine)) ∧ H pm' = none ∧ Dt K B' wv (encWhy r.why)) ?fin fun fin => ?_
  case fin =>
    rintro σ' H' ⟨r, s1, M', B', pm', wv, o5, o6, rfl, hr, f', j', of', om', hpm', dw⟩
    exact ⟨.ref pf, rfl, .ref pm', rfl, wv, rfl, sz_of (by show 3 ≤ 100000; decide), done_end AS f' j' of' om' hpf0 hpm' dw fun tp H'' B'' g1 g2 g3 g4 g5 g6 g7 => k1 r s1 hr tp pf pm' wv H'' B'' M' g1 g2 g3 g4 g5 g6 g7 hpf0 hpm'⟩
  refine s_forT (K := K) (A := B) (evd_var dv) f3.d2 fun H4 Hd gr => ?_
  refine ⟨fun i σ' H' => ∃ M' B' s' f m o5 o6, σ' = [some v, some (.ref fa), some (.ref pm), some (.ref pf), some .non, o5, o6, none] ∧ doneM step src [] [] s0 = doneM step (src.drop i) f m s' ∧ Fr M M' B H H' B' ∧ J s' M' B' H' ∧ Own M' B' H' pf (.lst (f.map V.int)) ∧ Own M' B' H' pm (.dK (encM m)) ∧ f.length ≤ i ∧ m.length ≤ i ∧ (∀ x j, m.lookup x = some j → InR j) ∧ Ex Hd B',
    ⟨M, Hd, s0, [], [], _, _, rfl, rfl, f3.trans (Fr.of gr), AS.gr j3 gr, of.gr gr, om.gr gr, Nat.le_refl _, Nat.le_refl _, fun x j h => (nomatch h), Ex.refl _⟩, fun i σ' H' ⟨M', B', s', f, m, o5, o6, _, _, ff, _, _, _, _, _, _, xx⟩ => xx.trans ff.d2, ?_, ?_⟩
  · rintro i v1 d σ' H' hi dv1 ⟨M', B', s', f, m, o5, o6, rfl, hde, ff, jj, of', om', hf, hm', hin, xx⟩
    rw [List.getElem?_map] at hi
    obtain ⟨r, hr, rfl⟩ := Option.map_eq_some_iff.mp hi
    have hi8 : i < src.length := (List.getElem?_eq_some_iff.mp hr).1
    have hmem : r ∈ src := List.mem_of_getElem? hr
    have hgr := Rw.good_sum (goodS_row hg hmem)
    have dr : src.drop i = r :: src.drop (i + 1) := by
      rw [List.drop_eq_getElem_cons hi8]
      congr 1
      rw [List.getElem?_eq_getElem hi8] at hr
      exact Option.some.inj hr
    have xB := AS.x jj
    have dvB : Dt K B' v1 r.enc := dp_ex xx _ _ dv1
    have nfm' : pf ≠ pm := nfm
    dsimp only [gName]
    refine s_worthA (im := 2) (ia := 1) AS rfl rfl ((evd_last (K := K) (evd_var dvB)).toB xB) jj om' hin (hNm r hmem) hgr.1 (by omega) (fun k s1 ew H5 B5 M5 f5 j5 => ?_) fun y s1 ew d tv H5 B5 M5 f5 j5 hd0 hdM hdB hd5 dt5 => ?_
    · have hk := worthM_in step m (fun s x i s1 h => AS.rng h) hin r.sum s' k s1 hgr.1 ew
      have of5 := of'.thru f5
      have om5 := om'.thru f5
      have x5 := AS.x j5
      have dv5 := dp_ex f5.xd _ _ dvB
      have F5 := ff.trans f5
      dsimp only
      refine s_ifD (H0 := B5) (et_test (ev_isSet (K := K) (evd_var dv5))) x5 (fun hb H6 e6 => ?_) fun hb H6 e6 => ?_
      · cases r with
        | shw q => rw [isSetD_shw] at hb; cases hb
        | set z q =>
          have of6 := of5.ex e6
          have om6 := om5.ex e6
          have j6 := AS.ex j5 e6
          refine s_dput (v := .int k) (k := .inr z) (ev_var rfl) (ev_var rfl) (ev_str (evd_setName (K := K) (H := H6) (evd_var (dp_ex (x5.trans e6) _ _ dv5)))) om6.h (by unfold LC.encM; rw [List.length_map]; omega) fun H7 e7 => ?_
          have om7 := om6.ex e7
          have F7 : Fr M M5 B H (upd H7 pm (.dK (putK (encM m) (.inr z) (.int k)))) B5 := (F5.trans (Fr.of (Gr.base x5 (e6.trans e7)))).wr hpm om7.b
          rw [encM_put] at F7 ⊢
          refine ⟨M5, B5, s1, f, putP m z k, _, _, rfl, ?_, F7, AS.out (AS.ex j6 e7) om7.b om7.m (.inl ⟨_, om7.h⟩) _, (of6.ex e7).put nfm', om7.set, by omega, Nat.le_trans (putP_len _ _ _) (by omega), fun x j h => ?_, xx.trans f5.xd⟩
          · rw [hde, dr, doneM_set (q := q) ew]
          · rw [putP_look] at h
            split at h
            · cases h; exact hk
            · exact hin x j h
      · cases r with
        | set z q => rw [isSetD_set] at hb; cases hb
        | shw q =>
          have of6 := of5.ex e6
          have om6 := om5.ex e6
          have j6 := AS.ex j5 e6
          refine Evl.s_app (K := K) (v := .int k) of6.h (ev_var rfl) (ev_var rfl) (by rw [List.length_map]; omega) fun H7 e7 => ?_
          have of7 := of6.ex e7
          have F7 : Fr M M5 B H (upd H7 pf (.lst (f.map V.int ++ [V.int k]))) B5 := (F5.trans (Fr.of (Gr.base x5 (e6.trans e7)))).wr hpf0 of7.b
          have el : f.map V.int ++ [V.int k] = (f ++ [k]).map V.int := by rw [List.map_append] <;> rfl
          rw [el] at F7 ⊢
          refine ⟨M5, B5, s1, f ++ [k], m, _, _, rfl, ?_, F7, AS.out (AS.ex j6 e7) of7.b of7.m (.inr ⟨_, of7.h⟩) _, of7.set, (om6.ex e7).put (Ne.symm nfm'), by rw [List.length_append]; exact Nat.succ_le_succ hf, by omega, hin, xx.trans f5.xd⟩
          rw [hde, dr, doneM_shw (q := q) ew]
    · have of5 := of'.thru f5
      have F5 := ff.trans f5
      have x5 := AS.x j5
      refine ⟨true, XF.e, fun _ a ha => ?_, fun z => nomatch z⟩
      refine ⟨.ref a, rfl, rfl, rfl, d, [("why", tv)], tv, rfl, hd5, rfl, ?_⟩
      dsimp only [gName]
      refine s_dnew fun pm2 hpm2 => ?_
      have h0 : H pm2 = none := by
        cases q : H pm2 with
        | none => rfl
        | some o => exact absurd hpm2 (F5.stay pm2 (by rw [q]; exact fun z => nomatch z))
      have e6 : Ex H5 (upd H5 pm2 (.dK [])) := Ex.new hpm2
      exact fin _ _ ⟨⟨f, [], some y⟩, s1, M5, B5, pm2, tv, _, _, rfl, by rw [hde, dr, doneM_fail ew], F5.trans (Fr.of (Gr.base x5 e6)), AS.ex j5 e6, of5.ex e6, ⟨upd_same, fresh_back x5 hpm2, fun z => (AS.m j5 _ z).2 hpm2⟩, h0, dt5⟩
  · rintro σ' H' ⟨M', B', s', f, m, o5, o6, rfl, hde, ff, jj, of', om', hf, hm', hin, xx⟩
    rw [List.length_map, List.drop_eq_nil_of_le (Nat.le_refl _)] at hde
    exact fin _ _ ⟨⟨f, m, none⟩, s', M', B', pm, .non, _, _, rfl, hde, ff, jj, of', om', hpm, .non⟩
theorem sc_Record_init : FnScope ["self", "source", "asked", "told"] ["self", "source", "asked", "told"] (defScope s_Record_init) := ⟨rfl, rfl, rfl, by decide +kernel, rfl, by decide +kernel, by decide +kernel⟩
theorem ok_Record_init {f : Addr} {fd : FuncData} {W : NbC} (U : NbT K W) (F : FnP K "__init__" "Record.__init__" s_Record_init f fd) (M : Mk K W.R f) (g : mg "Record" = some (.ref W.R)) (T : Tx mg) : HasI P w K mg base CX0 1 W.R "Record" ["self", "source", "asked", "told"] (spRecI K W) := by
  have nd := (sc_Record_init).nd
  refine hasI_p F M g (F.bindsN fun _ _ _ _ _ _ us hl => match us, hl with | [_, _, _, _], _ => rfl) sc_Record_init (by rintro _ _ _ _ ⟨_, _, _, _, _, _, _, _, rfl, _⟩; rfl) (fun cdv A outer s H vs Q E hr h => ?_)
  obtain ⟨x, dx, lv, av, t, sv, dv, wv, rfl, hx, ht, ntx, k⟩ := h
  refine ⟨_, (pss_cons (kSetFld (K := K) rfl (pv 0) (pv 1))
      (pss_cons (kSetFld (K := K) rfl (pv 0) (pv 2))
      (pss_cons (kSetFld (K := K) rfl (pv 0) (pe_ix (kIx (K := K) rfl) (pv 3) pe_int (fun _ _ => rfl)))
      (pss_cons (kSetFld (K := K) rfl (pv 0) (pe_ix (kIx (K := K) rfl) (pv 3) pe_int (fun _ _ => rfl)))
      (pss_one (kSetFld (K := K) rfl (pv 0) (pe_ix (kIx (K := K) rfl) (pv 3) pe_int (fun _ _ => rfl)))))))), ?_⟩
  refine s_fld (ev_var rfl) (ev_var rfl) hx U.cR (U.nR (by decide)) (by decide) fun H1 e1 => ?_
  have q1 := sqT_upd (o := .ins W.R dx (putF "lines" lv [])) (ex_t e1 ht) ntx
  refine s_fld (ev_var rfl) (ev_var rfl) upd_same U.cR (U.nR (by decide)) (by show 1 < 1000; decide) fun H2 e2 => ?_
  have q2 := sqT_upd (o := .ins W.R dx (putF "asked" av (putF "lines" lv []))) (ex_t e2 q1) ntx
  refine s_fld (y := sv) (ev_ixTup (j := 0) (ev_var rfl) ev_c q2 rfl) (ev_var rfl) upd_same U.cR (U.nR (by decide)) (by show 2 < 1000; decide) fun H3 e3 => ?_
  have q3 := sqT_upd (o := .ins W.R dx (putF "shown" sv (putF "asked" av (putF "lines" lv [])))) (ex_t e3 q2) ntx
  refine s_fld (y := dv) (ev_ixTup (j := 1) (ev_var rfl) ev_c q3 rfl) (ev_var rfl) upd_same U.cR (U.nR (by decide)) (by show 3 < 1000; decide) fun H4 e4 => ?_
  have q4 := sqT_upd (o := .ins W.R dx (putF "sets" dv (putF "shown" sv (putF "asked" av (putF "lines" lv []))))) (ex_t e4 q3) ntx
  refine s_fld (y := wv) (ev_ixTup (j := 2) (ev_var rfl) ev_c q4 rfl) (ev_var rfl) upd_same U.cR (U.nR (by decide)) (by show 4 < 1000; decide) fun H5 e5 => ?_
  refine k _ upd_same fun a o ha ho => ?_
  rw [upd_ne ha]
  refine e5 _ _ ?_
  rw [upd_ne ha]
  refine e4 _ _ ?_
  rw [upd_ne ha]
  refine e3 _ _ ?_
  rw [upd_ne ha]
  refine e2 _ _ ?_
  rw [upd_ne ha]
  exact e1 _ _ ho
theorem sc_Cell_init : FnScope ["self", "source"] ["self", "source"] (defScope s_Cell_init) := ⟨rfl, rfl, rfl, by decide +kernel, rfl, by decide +kernel, by decide +kernel⟩
theorem ok_Cell_init {f : Addr} {fd : FuncData} {W : NbC} (U : NbT K W) (F : FnP K "__init__" "Cell.__init__" s_Cell_init f fd) (M : Mk K W.C f) (g : mg "Cell" = some (.ref W.C)) (T : Tx mg) : HasI P w K mg base CX0 1 W.C "Cell" ["self", "source"] (spCellI K W) := by
  have nd := (sc_Cell_init).nd
  refine hasI_p F M g (F.bindsN fun _ _ _ _ _ _ us hl => match us, hl with | [_, _], _ => rfl) sc_Cell_init (by rintro _ _ _ _ ⟨_, _, _, rfl, _⟩; rfl) (fun cdv A outer s H vs Q E hr h => ?_)
  obtain ⟨x, dx, v, rfl, hx, k⟩ := h
  refine ⟨_, (pss_cons (kSetFld (K := K) rfl (pv 0) (pv 1))
      (pss_cons (kSetFld (K := K) rfl (pv 0) pe_int)
      (pss_cons (kSetFld (K := K) rfl (pv 0) pe_bl)
      (pss_one (kSetFld (K := K) rfl (pv 0) pe_non))))), ?_⟩
  refine s_fld (ev_var rfl) (ev_var rfl) hx U.cC (U.nC (by decide)) (by decide) fun H1 e1 => ?_
  refine s_fld ev_c (ev_var rfl) upd_same U.cC (U.nC (by decide)) (by show 1 < 1000; decide) fun H2 e2 => ?_
  refine s_fld ev_c (ev_var rfl) upd_same U.cC (U.nC (by decide)) (by show 2 < 1000; decide) fun H3 e3 => ?_
  refine s_fld ev_c (ev_var rfl) upd_same U.cC (U.nC (by decide)) (by show 3 < 1000; decide) fun H4 e4 => ?_
  refine k _ upd_same fun a o ha ho => ?_
  rw [upd_ne ha]
  refine e4 _ _ ?_
  rw [upd_ne ha]
  refine e3 _ _ ?_
  rw [upd_ne ha]
  refine e2 _ _ ?_
  rw [upd_ne ha]
  exact e1 _ _ ho
theorem sc_Notebook_init : FnScope ["self"] ["self"] (defScope s_Notebook_init) := ⟨rfl, rfl, rfl, by decide +kernel, rfl, by decide +kernel, by decide +kernel⟩
theorem ok_Notebook_init {f : Addr} {fd : FuncData} {W : NbC} (U : NbT K W) (F : FnP K "__init__" "Notebook.__init__" s_Notebook_init f fd) (M : Mk K W.N f) (g : mg "Notebook" = some (.ref W.N)) (T : Tx mg) : HasI P w K mg base CX0 1 W.N "Notebook" ["self"] (spNbI K W) := by
  have nd := (sc_Notebook_init).nd
  refine hasI_p F M g (F.bindsN fun _ _ _ _ _ _ us hl => match us, hl with | [_], _ => rfl) sc_Notebook_init (by rintro _ _ _ _ ⟨_, _, rfl, _⟩; rfl) (fun cdv A outer s H vs Q E hr h => ?_)
  obtain ⟨x, dx, rfl, hx, k⟩ := h
  refine ⟨_, (pss_cons (kSetFld (K := K) rfl (pv 0) pe_dnewK)
      (pss_cons (kSetFld (K := K) rfl (pv 0) (pe_lst pa_nil))
      (pss_one (kSetFld (K := K) rfl (pv 0) pe_int)))), ?_⟩
  intro c hc
  have nc : x ≠ c := ne_of_none hx hc
  refine ⟨_, rfl, x, W.N, dx, _, rfl, (upd_ne nc).trans hx, U.cN, U.nN (by decide), by decide, ?_⟩
  refine ⟨Nat.zero_le _, fun r hr => ?_⟩
  have nr : r ≠ x := fun z => by rw [z, upd_same] at hr; cases hr
  rw [upd_ne nr] at hr
  have nrc : r ≠ c := fun z => by rw [z, upd_same] at hr; cases hr
  rw [upd_ne nrc] at hr
  refine ⟨_, rfl, x, W.N, dx, _, rfl, (upd_ne nr.symm).trans upd_same, U.cN, U.nN (by decide), by show 1 < 1000; decide, ?_⟩
  refine ⟨_, rfl, x, W.N, dx, _, rfl, upd_same, U.cN, U.nN (by decide), by show 2 < 1000; decide, ?_⟩
  refine k c r _ hc hr nrc.symm upd_same ?_ ?_ fun a o ha ho => ?_
  · rw [upd_ne nc.symm, upd_ne nc.symm, upd_ne nrc.symm, upd_ne nc.symm, upd_same]
  · rw [upd_ne nr, upd_ne nr, upd_same]
  · have h1 : a ≠ r := ne_of_none ho hr
    have h2 : a ≠ c := ne_of_none ho hc
    rw [upd_ne ha, upd_ne ha, upd_ne h1, upd_ne ha, upd_ne h2]
    exact ho
theorem sc_Notebook_look_cell : FnScope ["self", "number"] ["self", "number"] (defScope s_Notebook_look_cell) := ⟨rfl, rfl, rfl, by decide +kernel, rfl, by decide +kernel, by decide +kernel⟩
theorem ok_Notebook_look_cell {f : Addr} {fd : FuncData}  {W : NbC} (U : NbT K W) {c_NoCell : Addr} (h_is_within : Has P w K mg base CX0 1 "is_within" ["thing", "low", "high"] (spD K F_is_within)) (x_NoCell : ExcF K mg "NoCell" c_NoCell) (F : FnP K "look_cell" "Notebook.look_cell" s_Notebook_look_cell f fd) (g : Meth K W.N "look_cell" f) (T : Tx mg) : HasM P w K mg base (L2.CX P w) 2 W.N "look_cell" ["self", "number"] (spNq K W (R_look_cell c_NoCell)) := by
  have nd := (sc_Notebook_look_cell).nd
  refine hasM_x F g (F.bindsN fun _ _ _ _ _ _ us hl => match us, hl with | [_, _], _ => rfl) sc_Notebook_look_cell (by rintro _ _ _ _ ⟨_, _, _, _, _, _, _, rfl, _, _, hd, ⟨_, rfl, _⟩, _⟩; exact congrArg (· + 1) (dpAll_len hd)) (fun cdv A outer s H vs Q E hr h => ?_)
  obtain ⟨M, B, nb, st', ws, _, o, rfl, hN, hG, hd, ⟨d, rfl, rfl⟩, k1, k2⟩ := h
  obtain ⟨v1, rfl, d1⟩ := dts1 hd
  obtain ⟨dn, c, r, kvs, ad, L⟩ := hN
  refine ⟨_, (pss_one (ps_if (PW.pt (pw_or (pt_not (kTruth (K := K) rfl (pe_has h_is_within hr (by omega) rfl pass0 (pa_cons (pv 1) (pa_cons pe_int (pa_cons (kFld (K := K) rfl (pv 0)) pa_nil)))))) (pw_or1 (pt_cmp (pc_dnotin (Nat.lt_of_le_of_lt (Nat.add_le_add_left (by decide) _) hr.units) (pv 1) (kFld (K := K) rfl (pv 0))))))) (pss_one (ps_raise rfl (takes_of rfl rfl rfl rfl) (pmk_own PySem.F.excBase_ValueError x_NoCell.q x_NoCell.g x_NoCell.k (raises_own x_NoCell.b x_NoCell.t) rfl))) pss_nil)), ?_⟩
  have D1 := dp_ex L.x _ _ d1
  refine s_ifD (H0 := H) (b := !isCellD st' d) (et_is (et_or (a := !isWithin d 0 (st'.after : Int)) (b := !isCellD st' d) (et_not (et_b (ev_bl (evd_call (eds_cons (evd_var D1) (eds_cons evd_int (eds_cons (evd_i (L.afterE U (ev_var rfl))) eds_nil))) ⟨d, 0, _, rfl, rfl⟩)))) fun hb => ?_) ?_) (Ex.refl _) (fun hb H1 e1 => ?_) fun hb H1 e1 => ?_
  · obtain ⟨i, rfl⟩ : ∃ i, d = .int i := by
      cases d <;> simp [isWithin] at hb
      exact ⟨_, rfl⟩
    rw [← L.isSome i]
    exact et_B (ev_dnotin (k := .inl i) (ev_int (evd_var D1)) (L.cellsE U (ev_var rfl)) L.hc)
  · cases h : isCellD st' d with
    | false => simp
    | true => rw [cell_within hG h]; rfl
  · rw [Bool.not_eq_true'] at hb
    rw [hb] at k2
    exact k2 _ rfl H1 e1
  · rw [Bool.not_eq_false'] at hb
    rw [hb] at k1
    exact k1 _ rfl .non H1 B (Gr.base L.x e1) .non
theorem sc_Notebook_look_live : FnScope ["self", "number"] ["self", "number"] (defScope s_Notebook_look_live) := ⟨rfl, rfl, rfl, by decide +kernel, rfl, by decide +kernel, by decide +kernel⟩
theorem ok_Notebook_look_live {f : Addr} {fd : FuncData}  {W : NbC} (U : NbT K W) {c_NoCell : Addr} {c_Struck : Addr} (x_Struck : ExcF K mg "Struck" c_Struck) (h_Notebook_look_cell : HasM P w K mg base (L2.CX P w) 2 W.N "look_cell" ["self", "number"] (spNq K W (R_look_cell c_NoCell))) (F : FnP K "look_live" "Notebook.look_live" s_Notebook_look_live f fd) (g : Meth K W.N "look_live" f) (T : Tx mg) : HasM P w K mg base (L2.CX P w) 3 W.N "look_live" ["self", "number"] (spNq K W (R_look_live c_NoCell c_Struck)) := by
  have nd := (sc_Notebook_look_live).nd
  refine hasM_x F g (F.bindsN fun _ _ _ _ _ _ us hl => match us, hl with | [_, _], _ => rfl) sc_Notebook_look_live (by rintro _ _ _ _ ⟨_, _, _, _, _, _, _, rfl, _, _, hd, ⟨_, rfl, _⟩, _⟩; exact congrArg (· + 1) (dpAll_len hd)) (fun cdv A outer s H vs Q E hr h => ?_)
  obtain ⟨M, B, nb, st, ws, _, o, rfl, hN, hG, hd, ⟨d, rfl, hf⟩, k1, k2⟩ := h
  obtain ⟨v1, rfl, d1⟩ := dts1 hd
  obtain ⟨dn, c, r, kvs, ad, L⟩ := hN
  refine ⟨_, (pss_cons (ps_expr (pe_hm (pv 0) U.cN h_Notebook_look_cell hr (by omega) (passA (passes_call (takes_of rfl rfl rfl rfl) fun _ _ _ _ h => h)) (pa_cons (pv 1) pa_nil)))
      (pss_one (ps_if (kTruth (K := K) rfl (kFld (K := K) rfl (pe_dget (Nat.lt_of_le_of_lt (Nat.add_le_add_left (by decide) _) hr.units) (kFld (K := K) rfl (pv 0)) (pv 1) (fun _ _ => rfl)))) (pss_one (ps_raise rfl (takes_of rfl rfl rfl rfl) (pmk_own PySem.F.excBase_ValueError x_Struck.q x_Struck.g x_Struck.k (raises_own x_Struck.b x_Struck.t) rfl))) pss_nil))), ?_⟩
  refine s_q (K := K) (T := W) (st := st) (fun _ _ _ => rfl) (ev_var rfl) L.toNB hG (ebs_cons ((evd_var d1).toB L.x) (ebs_nil L.x)) ⟨d, rfl, rfl⟩ (fun z e H1 e1 => ?_) fun cc e H1 e1 => ?_
  rotate_left
  · rcases hf with ⟨h, ho⟩ | ⟨n, hn, rfl, _⟩
    · rw [h] at e
      cases e
      exact k2 _ ho H1 e1
    · rw [cell_int hn] at e
      cases e
  rcases hf with ⟨h, ho⟩ | ⟨n, hn, rfl, hf⟩
  · rw [h] at e
    cases e
  have L1 := L.ex e1
  have ei := dp_int d1
  subst ei
  dsimp only
  refine s_ifN (H0 := H1) (et_b (L1.struckE U hn (L1.atE U (ev_var rfl) (ev_var rfl) hn))) (Ex.refl _) (fun hb H2 e2 => ?_) fun hb H2 e2 => ?_
  · rcases hf with ⟨_, ho⟩ | ⟨h, _⟩
    · exact k2 _ ho H2 (e1.trans e2)
    · rw [h] at hb; cases hb
  · rcases hf with ⟨h, _⟩ | ⟨_, ho⟩
    · rw [h] at hb; cases hb
    · exact k1 _ ho .non H2 B (Gr.base L.x (e1.trans e2)) .non
theorem sc_Notebook_look_place : FnScope ["self", "place", "most"] ["self", "place", "most"] (defScope s_Notebook_look_place) := ⟨rfl, rfl, rfl, by decide +kernel, rfl, by decide +kernel, by decide +kernel⟩
theorem ok_Notebook_look_place {f : Addr} {fd : FuncData}  {W : NbC} (U : NbT K W) {c_BadNumber : Addr} (h_is_within : Has P w K mg base CX0 1 "is_within" ["thing", "low", "high"] (spD K F_is_within)) (x_BadNumber : ExcF K mg "BadNumber" c_BadNumber) (F : FnP K "look_place" "Notebook.look_place" s_Notebook_look_place f fd) (g : Meth K W.N "look_place" f) (T : Tx mg) : HasM P w K mg base (L2.CX P w) 2 W.N "look_place" ["self", "place", "most"] (spNq K W (R_look_place c_BadNumber)) := by
  have nd := (sc_Notebook_look_place).nd
  refine hasM_x F g (F.bindsN fun _ _ _ _ _ _ us hl => match us, hl with | [_, _, _], _ => rfl) sc_Notebook_look_place (by rintro _ _ _ _ ⟨_, _, _, _, _, _, _, rfl, _, _, hd, ⟨_, _, rfl, _⟩, _⟩; exact congrArg (· + 1) (dpAll_len hd)) (fun cdv A outer s H vs Q E hr h => ?_)
  obtain ⟨M, B, nb, st, ws, _, o, rfl, hN, hG, hd, ⟨d, i, rfl, rfl⟩, k1, k2⟩ := h
  obtain ⟨v1, v2, rfl, d1, d2⟩ := dts2 hd
  have x := hN.x
  refine ⟨_, (pss_one (ps_if (pt_not (kTruth (K := K) rfl (pe_has h_is_within hr (by omega) rfl pass0 (pa_cons (pv 1) (pa_cons pe_int (pa_cons (pv 2) pa_nil)))))) (pss_one (ps_raise rfl (takes_of rfl rfl rfl rfl) (pmk_own PySem.F.excBase_ValueError x_BadNumber.q x_BadNumber.g x_BadNumber.k (raises_own x_BadNumber.b x_BadNumber.t) rfl))) pss_nil)), ?_⟩
  refine s_ifD (b := !isWithin d 0 i) (et_not (et_b (ev_bl (evd_call (eds_cons (evd_var d1) (eds_cons evd_int (eds_cons (evd_var d2) eds_nil))) ⟨d, 0, i, rfl, rfl⟩)))) x (fun hb H1 e1 => ?_) fun hb H1 e1 => ?_
  · rw [Bool.not_eq_true'] at hb
    rw [hb] at k2
    exact k2 _ rfl H1 e1
  · rw [Bool.not_eq_false'] at hb
    rw [hb] at k1
    exact k1 _ rfl .non H1 B (Gr.base x e1) .non
theorem sc_Notebook_put : FnScope ["self", "place", "source", "number"] ["self", "place", "source"] (defScope s_Notebook_put) := ⟨rfl, rfl, rfl, by decide +kernel, rfl, by decide +kernel, by decide +kernel⟩
theorem ok_Notebook_put {f : Addr} {fd : FuncData}  {W : NbC} (U : NbT K W) {c_BadSource : Addr} {c_BadNumber : Addr} {c_Full : Addr} (i_Cell : HasI P w K mg base CX0 1 W.C "Cell" ["self", "source"] (spCellI K W)) (m_MOST_CELLS : ∃ t, mg "MOST_CELLS" = some (.int 30 t)) (x_Full : ExcF K mg "Full" c_Full) (h_look : Has P w K mg base (L2.CX P w) 11 "look" ["source"] (spDX K c_BadSource F_look)) (h_Notebook_look_place : HasM P w K mg base (L2.CX P w) 2 W.N "look_place" ["self", "place", "most"] (spNq K W (R_look_place c_BadNumber))) (F : FnP K "put" "Notebook.put" s_Notebook_put f fd) (g : Meth K W.N "put" f) (T : Tx mg) : HasM P w K mg base (L2.CX P w) 12 W.N "put" ["self", "place", "source"] (spNb K W (R_put c_BadNumber c_BadSource c_Full)) := by
  have nd := (sc_Notebook_put).nd
  refine hasM_x F g (F.bindsN fun _ _ _ _ _ _ us hl => match us, hl with | [_, _, _], _ => rfl) sc_Notebook_put (by rintro _ _ _ _ ⟨_, _, _, _, _, _, _, _, rfl, _, _, hd, ⟨_, _, rfl, _⟩, _⟩; exact congrArg (· + 1) (dpAll_len hd)) (fun cdv A outer s H vs Q E hr h => ?_)
  obtain ⟨M, B, nb, st, ws, _, o, st', rfl, hN, hG, hd, ⟨d, s, rfl, ok, hf⟩, k1, k2⟩ := h
  obtain ⟨v1, v2, rfl, d1, d2⟩ := dts2 hd
  obtain ⟨dn, c, r, kvs, ad, L⟩ := hN
  refine ⟨_, (pss_cons (ps_expr (pe_hm (pv 0) U.cN h_Notebook_look_place hr (by omega) (passA (passes_call (takes_of rfl rfl rfl rfl) fun _ _ _ _ h => h)) (pa_cons (pv 1) (pa_cons (pe_callB (kLen (K := K) rfl) rfl (T.free (by decide)) boot_len (pa_cons (kFld (K := K) rfl (pv 0)) pa_nil)) pa_nil))))
      (pss_cons (ps_expr (pe_has h_look hr (by omega) rfl (passes_call (takes_of rfl rfl rfl rfl) fun _ _ _ _ h => h) (pa_cons (pv 2) pa_nil)))
      (pss_cons (ps_if (pt_cmpR (kEq (K := K) rfl hr.units) (pe_callB (kLen (K := K) rfl) rfl (T.free (by decide)) boot_len (pa_cons (kFld (K := K) rfl (pv 0)) pa_nil)) (pe_gint m_MOST_CELLS) (nomark _)) (pss_one (ps_raise rfl (takes_of rfl rfl rfl rfl) (pmk_own PySem.F.excBase_ValueError x_Full.q x_Full.g x_Full.k (raises_own x_Full.b x_Full.t) rfl))) pss_nil)
      (pss_cons (ps_set (i := 3) nd rfl (Or.inl rfl) (kFld (K := K) rfl (pv 0)))
      (pss_cons (kAugFld (K := K) rfl (pv 0) pe_int)
      (pss_cons (ps_dput (Nat.lt_of_le_of_lt (Nat.add_le_add_left (by decide) _) hr.units) (kFld (K := K) rfl (pv 0)) (pv 3) (pe_mk i_Cell hr (by omega) rfl pass0 (pa_cons (pv 2) pa_nil)) rfl)
      (pss_cons (ps_expr (pe_bm PySem.F.plainAttrs_list PySem.F.slot_list_insert PySem.F.type_list_insert kIns (kFld (K := K) rfl (pv 0)) (pa_cons (pv 1) (pa_cons (pv 3) pa_nil))))
      (pss_one (ps_ret (pv 3)))))))))), ?_⟩
  have no : ∀ {H1 : Hp} (cc : Addr), Ex H H1 → o = .inr cc → st' = st → E (.ref cc) none H1 := fun {H1} cc e ho hs => k2 _ ho H1 B M (Fr.of (Gr.base L.x e)) (by rw [hs]; exact (L.ex e).toNB)
  refine s_q (K := K) (T := W) (st := st) (fun _ _ _ => rfl) (ev_var rfl) L.toNB hG (ebs_cons ((evd_var d1).toB L.x) (ebs_cons (evb_i L.x (L.lenE U (ev_var rfl))) (ebs_nil L.x))) ⟨d, (st.row.length : Int), rfl, rfl⟩ (fun z e H1 e1 => ?_) fun cc e H1 e1 => ?_
  rotate_left
  · cases hw : isWithin d 0 (st.row.length : Int) with
    | true => rw [hw] at e; cases e
    | false =>
      rw [hw] at e
      cases e
      rcases hf with ⟨_, ho, hs⟩ | ⟨h, _⟩ | ⟨h, _⟩ | ⟨i, src, rfl, hi, _⟩
      · exact no _ e1 ho hs
      · rw [hw] at h; cases h
      · rw [hw] at h; cases h
      · exfalso
        simp [isWithin] at hw
        omega
  have hw : isWithin d 0 (st.row.length : Int) = true := by
    cases hw : isWithin d 0 (st.row.length : Int) with
    | true => rfl
    | false => rw [hw] at e; cases e
  clear e z
  refine s_callX (cB := c_BadSource) (eds_cons (evd_var d2) eds_nil) (L.x.trans e1) ⟨s, rfl, ok, rfl⟩ (fun z e H2 e2 => ?_) fun e H2 e2 => ?_
  rotate_left
  · have hS : isSource s = false := by
      cases hS : isSource s with
      | false => rfl
      | true => rw [hS] at e; cases e
    rcases hf with ⟨h, _⟩ | ⟨_, _, ho, hs⟩ | ⟨_, h, _⟩ | ⟨i, src, _, hi, rfl, hg, _⟩
    · rw [hw] at h; cases h
    · exact no _ (e1.trans e2) ho hs
    · rw [hS] at h; cases h
    · rw [isSource_enc src hg] at hS; cases hS
  have hS : isSource s = true := by
    cases hS : isSource s with
    | true => rfl
    | false => rw [hS] at e; cases e
  clear e z
  have L2 := L.ex (e1.trans e2)
  dsimp only
  refine s_ifD (H0 := H2) (b := decide (st.row.length = 30)) (et_is (et_test (ev_eq (evd_i (K := K) (L2.lenE U (ev_var rfl))) evd_int rfl rfl)) ?_) (Ex.refl _) (fun hb H3 e3 => ?_) fun hb H3 e3 => ?_
  · show ((st.row.length : Int) == 30) = _
    rw [Bool.eq_iff_iff]
    simp
    omega
  · have hb := of_decide_eq_true hb
    rcases hf with ⟨h, _⟩ | ⟨_, h, _⟩ | ⟨_, _, _, ho, hs⟩ | ⟨i, src, _, hi, rfl, hg, h, _⟩
    · rw [hw] at h; cases h
    · rw [hS] at h; cases h
    · exact no _ ((e1.trans e2).trans e3) ho hs
    · omega
  have hb := of_decide_eq_false hb
  rcases hf with ⟨h, _⟩ | ⟨_, h, _⟩ | ⟨_, _, h, _⟩ | ⟨i, src, rfl, hi, rfl, hg, h30, rfl, rfl⟩
  · rw [hw] at h; cases h
  · rw [hS] at h; cases h
  · exact absurd h hb
  have L3 := L2.ex e3
  refine s_asg (L3.afterE U (ev_var rfl)) fun H4 e4 => ?_
  have L4 := L3.ex e4
  have X4 : Ex H H4 := ((e1.trans e2).trans e3).trans e4
  dsimp only
  refine s_fldaug (ev_var rfl) L4.hn U.cN (U.nN (by decide)) rfl ev_c (by show 3 < 1000; decide) fun H5 e5 => ?_
  have L5 := L4.ex e5
  have X5 : Ex H H5 := X4.trans e5
  have hc5 := L5.hc
  have hr5 := L5.hr
  refine ⟨_, rfl, fun x dx hx hdx hne => ?_⟩
  have nx : x ≠ nb := fun z => by rw [z, upd_same] at hx; cases hx
  rw [upd_ne nx] at hx
  have ndn : dx ≠ nb := fun z => by rw [z, upd_same] at hdx; cases hdx
  rw [upd_ne ndn] at hdx
  have xc : x ≠ c := fun z => by rw [z, hc5] at hx; cases hx
  have xr : x ≠ r := fun z => by rw [z, hr5] at hx; cases hx
  have dc : dx ≠ c := fun z => by rw [z, hc5] at hdx; cases hdx
  have dr : dx ≠ r := fun z => by rw [z, hr5] at hdx; cases hdx
  refine ⟨x, dx, v2, rfl, upd_same, fun H6 h6 f6 => ⟨rfl, ?_⟩⟩
  have g6 : ∀ a o, a ≠ nb → H5 a = some o → H6 a = some o := fun a o ha ho => by
    have h1 : a ≠ x := ne_of_none ho hx
    have h2 : a ≠ dx := ne_of_none ho hdx
    refine f6 a o h1 ?_
    rw [upd_ne h1, upd_ne h2, upd_ne ha]
    exact ho
  have n6 : H6 nb = some (.ins W.N dn [("cells", .ref c), ("row", .ref r), ("after", .int ((st.after : Int) + 1))]) := by
    refine f6 nb _ nx.symm ?_
    rw [upd_ne nx.symm, upd_ne ndn.symm, upd_same]
    rfl
  have c6 : H6 c = some (.dK kvs) := g6 c _ L5.ne_nc.symm hc5
  have r6 : H6 r = some (.lst (st.row.map fun n : Nat => V.int (n : Int))) := g6 r _ L5.ne_nr.symm hr5
  show tFld K (tVar 0) "cells" _ H6 _
  refine ev_fld (K := K) (ta := tVar 0) (f := "cells") (v := .ref c) (ev_var rfl) n6 U.cN (U.nN (by decide)) rfl H6 (Ex.refl _) _ fun H7 e7 => ?_
  refine ⟨_, rfl, c, _, rfl, DPut.k (k := .inl (st.after : Int)) (e7 _ _ c6) (sz_lt ?_), ?_⟩
  · have := L.kl
    have := hG.few
    omega
  have n8 : upd H7 c (.dK (putK kvs (.inl (st.after : Int)) (.ref x))) nb = some (.ins W.N dn [("cells", .ref c), ("row", .ref r), ("after", .int ((st.after : Int) + 1))]) := by
    rw [upd_ne L5.ne_nc]
    exact e7 _ _ n6
  have r8 : upd H7 c (.dK (putK kvs (.inl (st.after : Int)) (.ref x))) r = some (.lst (st.row.map fun n : Nat => V.int (n : Int))) := by
    rw [upd_ne L5.ne_cr.symm]
    exact e7 _ _ r6
  have ei := dp_int d1
  subst ei
  dsimp only
  refine s_ins (l := r) (i := (i : Int)) (y := .int (st.after : Int)) r8 (ev_fld (K := K) (ev_var rfl) n8 U.cN (U.nN (by decide)) rfl) (ev_var rfl) (ev_var rfl) (by rw [List.length_map]; omega) (by omega) (by omega) fun H8 e8 => ?_
  rw [Int.toNat_natCast]
  have hx0 : H x = none := fresh_back X5 hx
  have key := L.put (H' := upd H8 r (.lst ((st.row.map fun n : Nat => V.int (n : Int)).take i ++ [V.int (st.after : Int)] ++ (st.row.map fun n : Nat => V.int (n : Int)).drop i))) (v := v2) (src := src) (dx := dx) (x := x) hG hi hx0 d2 ?_ ?_ upd_same ?_ ?_
  · exact ⟨_, rfl, k1 _ rfl _ _ B _ key.1 key.2.toNB (Kept.of L key.2 fun n hn h => if_neg fun z => by have := hG.lt n h; omega) (.int _)⟩
  · rw [upd_ne L5.ne_nr]
    exact e8 _ _ n8
  · rw [upd_ne L5.ne_cr]
    exact e8 _ _ upd_same
  · rw [upd_ne xr]
    refine e8 _ _ ?_
    rw [upd_ne xc]
    exact e7 _ _ h6
  · intro a o ha hc hr ho
    rw [upd_ne hr]
    refine e8 _ _ ?_
    rw [upd_ne hc]
    exact e7 _ _ (g6 a o ha (X5 _ _ ho))
theorem sc_Notebook_change : FnScope ["self", "number", "version", "source", "cell"] ["self", "number", "version", "source"] (defScope s_Notebook_change) := ⟨rfl, rfl, rfl, by decide +kernel, rfl, by decide +kernel, by decide +kernel⟩
theorem ok_Notebook_change {f : Addr} {fd : FuncData}  {W : NbC} (U : NbT K W) {c_BadSource : Addr} {c_NoCell : Addr} {c_BadNumber : Addr} {c_Behind : Addr} (x_Behind : ExcF K mg "Behind" c_Behind) (h_look : Has P w K mg base (L2.CX P w) 11 "look" ["source"] (spDX K c_BadSource F_look)) (h_is_within : Has P w K mg base CX0 1 "is_within" ["thing", "low", "high"] (spD K F_is_within)) (x_BadNumber : ExcF K mg "BadNumber" c_BadNumber) (h_Notebook_look_cell : HasM P w K mg base (L2.CX P w) 2 W.N "look_cell" ["self", "number"] (spNq K W (R_look_cell c_NoCell))) (F : FnP K "change" "Notebook.change" s_Notebook_change f fd) (g : Meth K W.N "change" f) (T : Tx mg) : HasM P w K mg base (L2.CX P w) 12 W.N "change" ["self", "number", "version", "source"] (spNb K W (R_change c_NoCell c_BadNumber c_BadSource c_Behind)) := by
  have nd := (sc_Notebook_change).nd
  refine hasM_x F g (F.bindsN fun _ _ _ _ _ _ us hl => match us, hl with | [_, _, _, _], _ => rfl) sc_Notebook_change (by rintro _ _ _ _ ⟨_, _, _, _, _, _, _, _, rfl, _, _, hd, ⟨_, _, _, rfl, _⟩, _⟩; exact congrArg (· + 1) (dpAll_len hd)) (fun cdv A outer s H vs Q E hr h => ?_)
  obtain ⟨M, B, nb, st, ws, _, o, st', rfl, hN, hG, hd, ⟨d, e0, s, rfl, ok, hf⟩, k1, k2⟩ := h
  obtain ⟨v1, v2, v3, rfl, d1, d2, d3⟩ := dts3 hd
  obtain ⟨dn, c, r, kvs, ad, L⟩ := hN
  refine ⟨_, (pss_cons (ps_expr (pe_hm (pv 0) U.cN h_Notebook_look_cell hr (by omega) (passA (passes_call (takes_of rfl rfl rfl rfl) fun _ _ _ _ h => h)) (pa_cons (pv 1) pa_nil)))
      (pss_cons (ps_if (pt_not (kTruth (K := K) rfl (pe_has h_is_within hr (by omega) rfl pass0 (pa_cons (pv 2) (pa_cons pe_int (pa_cons pe_int pa_nil)))))) (pss_one (ps_raise rfl (takes_of rfl rfl rfl rfl) (pmk_own PySem.F.excBase_ValueError x_BadNumber.q x_BadNumber.g x_BadNumber.k (raises_own x_BadNumber.b x_BadNumber.t) rfl))) pss_nil)
      (pss_cons (ps_expr (pe_has h_look hr (by omega) rfl (passes_call (takes_of rfl rfl rfl rfl) fun _ _ _ _ h => h) (pa_cons (pv 3) pa_nil)))
      (pss_cons (ps_set (i := 4) nd rfl (Or.inl rfl) (pe_dget (Nat.lt_of_le_of_lt (Nat.add_le_add_left (by decide) _) hr.units) (kFld (K := K) rfl (pv 0)) (pv 1) (fun _ _ => rfl)))
      (pss_cons (ps_if (pt_cmpR (kNe (K := K) rfl hr.units) (pv 2) (kFld (K := K) rfl (pv 4)) (nomark _)) (pss_one (ps_raise rfl (takes_of rfl rfl rfl rfl) (pmk_own PySem.F.excBase_ValueError x_Behind.q x_Behind.g x_Behind.k (raises_own x_Behind.b x_Behind.t) rfl))) pss_nil)
      (pss_cons (kSetFld (K := K) rfl (pv 4) (pv 3))
      (pss_cons (kAugFld (K := K) rfl (pv 4) pe_int)
      (pss_one (ps_ret (kFld (K := K) rfl (pv 4))))))))))), ?_⟩
  have no : ∀ {H1 : Hp} (cc : Addr), Ex H H1 → o = .inr cc → st' = st → E (.ref cc) none H1 := fun {H1} cc e ho hs => k2 _ ho H1 B M (Fr.of (Gr.base L.x e)) (by rw [hs]; exact (L.ex e).toNB)
  refine s_q (K := K) (T := W) (st := st) (fun _ _ _ => rfl) (ev_var rfl) L.toNB hG (ebs_cons ((evd_var d1).toB L.x) (ebs_nil L.x)) ⟨d, rfl, rfl⟩ (fun z e H1 e1 => ?_) fun cc e H1 e1 => ?_
  rotate_left
  · rcases hf with ⟨h, ho, hs⟩ | ⟨n, hn, rfl, _⟩
    · rw [h] at e
      cases e
      exact no _ e1 ho hs
    · rw [cell_int hn] at e
      cases e
  rcases hf with ⟨h, ho, hs⟩ | ⟨n, hn, rfl, hf⟩
  · rw [h] at e
    cases e
  clear e z
  dsimp only
  have ei := dp_int d1
  subst ei
  refine s_ifD (b := !isWithin e0 0 1000000) (et_not (et_b (ev_bl (evd_call (eds_cons (evd_var d2) (eds_cons evd_int (eds_cons evd_int eds_nil))) ⟨e0, 0, _, rfl, rfl⟩)))) (L.x.trans e1) (fun hb H2 e2 => ?_) fun hb H2 e2 => ?_
  · rw [Bool.not_eq_true'] at hb
    rcases hf with ⟨h, ho, hs⟩ | ⟨i, rfl, h, _⟩
    · exact no _ (e1.trans e2) ho hs
    · rw [h] at hb; cases hb
  rw [Bool.not_eq_false'] at hb
  rcases hf with ⟨h, ho, hs⟩ | ⟨i, rfl, _, hf⟩
  · rw [h] at hb; cases hb
  have ei := dp_int d2
  subst ei
  refine s_callX (cB := c_BadSource) (eds_cons (evd_var d3) eds_nil) (L.x.trans (e1.trans e2)) ⟨s, rfl, ok, rfl⟩ (fun z e H3 e3 => ?_) fun e H3 e3 => ?_
  rotate_left
  · rcases hf with ⟨h, ho, hs⟩ | ⟨src, rfl, hg, _⟩
    · exact no _ ((e1.trans e2).trans e3) ho hs
    · rw [isSource_enc src hg] at e; cases e
  rcases hf with ⟨h, ho, hs⟩ | ⟨src, rfl, hg, hf⟩
  · rw [h] at e; cases e
  clear e z
  have X3 := (e1.trans e2).trans e3
  have L3 := L.ex X3
  dsimp only
  refine s_asg (L3.atE U (ev_var rfl) (ev_var rfl) hn) fun H4 e4 => ?_
  have L4 := L3.ex e4
  dsimp only
  refine s_ifD (H0 := H4) (b := decide (i ≠ ((st.cell n).count : Int))) (et_is (et_test (ev_ne (K := K) (evd_var (.int i)) (evd_i (L4.countE U hn (ev_var rfl))) rfl rfl)) ?_) (Ex.refl _) (fun hb H5 e5 => ?_) fun hb H5 e5 => ?_
  · show (!(i == ((st.cell n).count : Int))) = _
    rw [Bool.eq_iff_iff]
    simp
  · have hb := of_decide_eq_true hb
    rcases hf with ⟨h, ho, hs⟩ | ⟨h, _⟩
    · exact no _ ((X3.trans e4).trans e5) ho hs
    · exact absurd h hb
  have hb := of_decide_eq_false hb
  rcases hf with ⟨h, _⟩ | ⟨rfl, rfl, rfl⟩
  · exact absurd h hb
  have X5 := (X3.trans e4).trans e5
  have L5 := L.ex X5
  obtain ⟨dx, lv, rv, h1, h2, h3⟩ := L5.cells n hn
  dsimp only
  refine s_fld (ev_var rfl) (ev_var rfl) h1 U.cC (U.nC (by decide)) (by show 4 < 1000; decide) fun H6 e6 => ?_
  dsimp only
  refine s_fldaug (ev_var rfl) upd_same U.cC (U.nC (by decide)) rfl ev_c (by show 4 < 1000; decide) fun H7 e7 => ?_
  dsimp only
  refine s_ret (ev_fld (ev_var rfl) upd_same U.cC (U.nC (by decide)) rfl) fun H8 e8 => ?_
  have key := L.setCell (H' := H8) (cs := chC (st.cell n) src) (lv := v3) (rv := rv) (dx := dx) hn (e8 _ _ upd_same) d3 h3 fun a o ha ho => e8 _ _ (by
    rw [upd_ne ha]
    refine e7 _ _ ?_
    rw [upd_ne ha]
    exact e6 _ _ (X5 _ _ ho))
  exact k1 _ rfl _ H8 B M key.1 key.2.toNB (Kept.of L key.2 fun _ _ _ => rfl) (.int _)
theorem sc_Notebook_setter : FnScope ["self", "number", "name", "found", "one"] ["self", "number", "name"] (defScope s_Notebook_setter) := ⟨rfl, rfl, rfl, by decide +kernel, rfl, by decide +kernel, by decide +kernel⟩
theorem ok_Notebook_setter {f : Addr} {fd : FuncData}  {W : NbC} (U : NbT K W) (h_sets_of : Has P w K mg base CX0 1 "sets_of" ["source"] (spD K F_sets_of)) (F : FnP K "setter" "Notebook.setter" s_Notebook_setter f fd) (g : Meth K W.N "setter" f) (T : Tx mg) : HasM P w K mg base CX0 4 W.N "setter" ["self", "number", "name"] (spNq K W R_setter) := by
  have nd := (sc_Notebook_setter).nd
  refine hasM_p F g (F.bindsN fun _ _ _ _ _ _ us hl => match us, hl with | [_, _, _], _ => rfl) sc_Notebook_setter (by rintro _ _ _ _ ⟨_, _, _, _, _, _, _, rfl, _, _, hd, ⟨_, _, rfl, _⟩, _⟩; exact congrArg (· + 1) (dpAll_len hd)) (fun cdv A outer s H vs Q E hr h => ?_)
  obtain ⟨M, B, nb, st, ws, _, o, rfl, hN, hG, hd, ⟨n, z, rfl, hn, rfl⟩, k1, k2⟩ := h
  obtain ⟨v1, v2, rfl, d1, d2⟩ := dts2 hd
  have ei := dp_int d1
  subst ei
  have ei := dp_str d2
  subst ei
  obtain ⟨dn, c, r, kvs, ad, L⟩ := hN
  refine ⟨_, (pss_cons (ps_set (i := 3) nd rfl (Or.inl rfl) pe_non)
      (pss_cons (ps_for PassesOwn.never rfl (kSeq (K := K) rfl (pe_slice (kSl (K := K) rfl) (kFld (K := K) rfl (pv 0)) po_none (po_some (pe_bm PySem.F.plainAttrs_list PySem.F.slot_list_index PySem.F.type_list_index (kIndex (K := K) rfl) (kFld (K := K) rfl (pv 0)) (pa_cons (pv 1) pa_nil))))) (pg_name (i := 4) nd rfl (Or.inl rfl)) (pss_one (ps_if (PW.pt (pw_and (pt_not (kTruth (K := K) rfl (kFld (K := K) rfl (pe_dget (Nat.lt_of_le_of_lt (Nat.add_le_add_left (by decide) _) hr.units) (kFld (K := K) rfl (pv 0)) (pv 4) (fun _ _ => rfl))))) (pw_and1 (pt_cmpR (kIn (K := K) rfl) (pv 2) (pe_has h_sets_of hr (by omega) rfl pass0 (pa_cons (kFld (K := K) rfl (pe_dget (Nat.lt_of_le_of_lt (Nat.add_le_add_left (by decide) _) hr.units) (kFld (K := K) rfl (pv 0)) (pv 4) (fun _ _ => rfl))) pa_nil)) rfl)))) (pss_one (ps_set (i := 3) nd rfl (Or.inl rfl) (pv 4))) pss_nil)))
      (pss_one (ps_ret (pv 3))))), ?_⟩
  refine s_asg ev_c fun H1 e1 => ?_
  have L1 := L.ex e1
  dsimp only
  have ed : PyData.list (cutD (st.row.map fun n : Nat => PyData.int (n : Int)) none (some (st.row.idxOf n : Int))) = .list ((ahead st n).map fun n : Nat => PyData.int (n : Int)) := by
    rw [cut_upto, ← List.map_take]
    rfl
  refine s_forL (K := K) (A := H1) (evd_is (evd_slL (evd_of (L1.rowE U (ev_var rfl)) L1.dtRow) eo_none (eo_some (ev_index (K := K) (L1.rowE U (ev_var rfl)) L1.hr hn hG.nd (ev_var rfl)))) ed) (Ex.refl _) fun H2 Hd gr => ?_
  refine ⟨fun i σ' H' => (∃ o4, σ' = [some (.ref nb), some (.int (n : Int)), some (.str z), some (encIV (setterL st ((ahead st n).take i) z)), o4]) ∧ Ex Hd H' ∧ Ex H1 H', ⟨⟨none, rfl⟩, gr.d2, gr.ex⟩, fun i σ' H' q => q.2.1, ?_, ?_⟩
  · rintro i v d σ' H' hi hv ⟨⟨o4, rfl⟩, xd, x1⟩
    rw [List.getElem?_map] at hi
    obtain ⟨m, hm, rfl⟩ := Option.map_eq_some_iff.mp hi
    have hmr : m ∈ st.row := List.mem_of_mem_take (List.mem_of_getElem? hm)
    have ei := dp_int hv
    subst ei
    have L3 := L1.ex x1
    have at_ : Ev (tDGet (tFld K (tVar 0) "cells") (tVar 4)) [some (.ref nb), some (.int (n : Int)), some (.str z), some (encIV (setterL st ((ahead st n).take i) z)), some (.int (m : Int))] H' (.ref (ad m)) := L3.atE U (ev_var rfl) (ev_var rfl) hmr
    obtain ⟨lv, hlv, dlv⟩ := L3.linesE U hmr at_
    dsimp only [gName]
    refine s_ifN (H0 := H') (b := setsB st m z) (et_is (et_and (a := !(st.cell m).struck) (b := decide (z ∈ setsOf (st.cell m).src)) (et_not (et_b (L3.struckE U hmr at_))) fun _ => et_is (et_test (ev_inL (K := K) (neg := false) (evd_var (.str z)) (evd_call (eds_cons (evd_of hlv (dp_ex L3.x _ _ dlv)) eds_nil) ⟨_, rfl, hG.good m hmr, rfl⟩) rfl (flat_strs _))) (by show inD _ _ = _; exact inD_str)) rfl) (Ex.refl _) (fun hb H4 e4 => ?_) fun hb H4 e4 => ?_
    · refine s_asg (ev_var rfl) fun H5 e5 => ?_
      refine ⟨⟨some (.int (m : Int)), ?_⟩, xd.trans (e4.trans e5), x1.trans (e4.trans e5)⟩
      rw [setterL_take hm, if_pos hb]
      rfl
    · refine ⟨⟨some (.int (m : Int)), ?_⟩, xd.trans e4, x1.trans e4⟩
      rw [setterL_take hm, if_neg (by rw [hb]; exact Bool.false_ne_true)]
      rfl
  · rintro σ' H' ⟨⟨o4, rfl⟩, xd, x1⟩
    rw [List.length_map, List.take_length]
    show tRet (tVar 3) { nx := fun _ H' => Q .non H', rt := Q } [some (.ref nb), some (.int (n : Int)), some (.str z), some (encIV (setterL st (ahead st n) z)), o4] H'
    refine s_ret (ev_var rfl) fun H5 e5 => ?_
    exact k1 _ rfl _ H5 B (Gr.base L.x (e1.trans (x1.trans e5))) (dt_encI _)
theorem sc_Notebook_holds : FnScope ["self", "number", "fresh", "record", "name", "known", "other"] ["self", "number", "fresh"] (defScope s_Notebook_holds) := ⟨rfl, rfl, rfl, by decide +kernel, rfl, by decide +kernel, by decide +kernel⟩
theorem ok_Notebook_holds {f : Addr} {fd : FuncData}  {W : NbC} (U : NbT K W) (h_Notebook_last_told : HasM P w K mg base CX0 1 W.N "last_told" ["self", "number", "name"] (spNq K W R_last)) (h_Notebook_setter : HasM P w K mg base CX0 4 W.N "setter" ["self", "number", "name"] (spNq K W R_setter)) (F : FnP K "holds" "Notebook.holds" s_Notebook_holds f fd) (g : Meth K W.N "holds" f) (T : Tx mg) : HasM P w K mg base CX0 5 W.N "holds" ["self", "number", "fresh"] (spNq K W R_holds) := by
  have nd := (sc_Notebook_holds).nd
  refine hasM_p F g (F.bindsN fun _ _ _ _ _ _ us hl => match us, hl with | [_, _, _], _ => rfl) sc_Notebook_holds (by rintro _ _ _ _ ⟨_, _, _, _, _, _, _, rfl, _, _, hd, ⟨_, _, rfl, _⟩, _⟩; exact congrArg (· + 1) (dpAll_len hd)) (fun cdv A outer s H vs Q E hr h => ?_)
  obtain ⟨M, B, nb, st, ws, _, o, rfl, hN, hG, hd, ⟨n, fr, rfl, hn, hV, hfr, rfl⟩, k1, k2⟩ := h
  obtain ⟨v1, v2, rfl, d1, d2⟩ := dts2 hd
  have ei := dp_int d1
  subst ei
  obtain ⟨dn, c, r, kvs, ad, L⟩ := hN
  have x := L.x
  refine ⟨_, (pss_cons (ps_set (i := 3) nd rfl (Or.inl rfl) (kFld (K := K) rfl (pe_dget (Nat.lt_of_le_of_lt (Nat.add_le_add_left (by decide) _) hr.units) (kFld (K := K) rfl (pv 0)) (pv 1) (fun _ _ => rfl))))
      (pss_cons (ps_if (PW.pt (pw_or (pt_cmpR op_isN (pv 3) pe_non (nomark _)) (pw_or1 (pt_cmpR (kNe (K := K) rfl hr.units) (kFld (K := K) rfl (pv 3)) (kFld (K := K) rfl (pe_dget (Nat.lt_of_le_of_lt (Nat.add_le_add_left (by decide) _) hr.units) (kFld (K := K) rfl (pv 0)) (pv 1) (fun _ _ => rfl))) (nomark _))))) (pss_one (ps_ret pe_bl)) pss_nil)
      (pss_cons (ps_for PassesOwn.never rfl (kSeq (K := K) rfl (kFld (K := K) rfl (pv 3))) (pg_tup rfl (pgs_cons (pg_name (i := 4) nd rfl (Or.inl rfl)) (pgs_cons (pg_name (i := 5) nd rfl (Or.inl rfl)) pgs_nil))) (pss_cons (ps_set (i := 6) nd rfl (Or.inl rfl) (pe_hm (pv 0) U.cN h_Notebook_setter hr (by omega) (passA pass0) (pa_cons (pv 1) (pa_cons (pv 4) pa_nil))))
      (pss_cons (ps_if (PW.pt (pw_and (pt_cmpR op_notN (pv 6) pe_non (nomark _)) (pw_and1 (pt_cmpR (kNotIn (K := K) rfl) (pv 6) (pv 2) rfl)))) (pss_one (ps_ret pe_bl)) pss_nil)
      (pss_one (ps_if (pt_cmpR (kNe (K := K) rfl hr.units) (pv 5) (pe_hm (pv 0) U.cN h_Notebook_last_told hr (by omega) (passA pass0) (pa_cons (pv 6) (pa_cons (pv 4) pa_nil))) (nomark _)) (pss_one (ps_ret pe_bl)) pss_nil)))))
      (pss_one (ps_ret pe_bl))))), ?_⟩
  obtain ⟨rv, h1, h2⟩ := L.recE U hn (L.atE U (ta := tVar 0) (ty := tVar 1) (σ := start ["self", "number", "fresh", "record", "name", "known", "other"] [.ref nb, .int (n : Int), v2]) (ev_var rfl) (ev_var rfl) hn)
  refine s_asg h1 fun H1 e1 => ?_
  have L1 := L.ex e1
  have x1 := L1.x
  dsimp only
  have at1 : Ev (tDGet (tFld K (tVar 0) "cells") (tVar 1)) ((start ["self", "number", "fresh", "record", "name", "known", "other"] [.ref nb, .int (n : Int), v2]).set 3 (some rv)) H1 (.ref (ad n)) := L1.atE U (ev_var rfl) (ev_var rfl) hn
  obtain ⟨lv, hlv, dlv⟩ := L1.linesE U hn at1
  cases hrec : (st.cell n).recd with
  | none =>
    rw [hrec] at h2
    have h2 : rv = .non := h2
    subst h2
    have eS : holdsB st n fr = false := by unfold holdsB; rw [hrec]
    rw [eS] at k1
    refine s_yes (H0 := H1) (et_is (et_or (a := true) (b := false) (et_is (et_test (ev_isN (ev_var rfl))) rfl) fun z => nomatch z) rfl) (Ex.refl _) fun H2 e2 => ?_
    exact s_ret ev_c fun H3 e3 => k1 _ rfl _ H3 B (Gr.base x (e1.trans (e2.trans e3))) (.bl _)
  | some rc =>
    rw [hrec] at h2
    obtain ⟨p, dx, lr, av, sv, dv, wv, rfl, hp, q1, q2, q3, q4, q5⟩ := h2
    obtain ⟨vv, hgl, hal, hnm, hsl⟩ := hV n hn rc hrec
    have rlE : ∀ {H' σ'}, Ex B H' → σ'[3]? = some (some (V.ref p)) → Ev (tFld K (tVar 3) "lines") σ' H' lr := fun xx s4 => ev_fld (K := K) (ev_var s4) (xx _ _ hp) U.cR (U.nR (by decide)) rfl
    have cmp : Ev (tOp (rNeD K) (tFld K (tVar 3) "lines") (tFld K (tDGet (tFld K (tVar 0) "cells") (tVar 1)) "lines")) ((start ["self", "number", "fresh", "record", "name", "known", "other"] [.ref nb, .int (n : Int), v2]).set 3 (some (.ref p))) H1 (.bl (!decide (rc.lines = (st.cell n).src))) := by
      refine ev_is (ev_ne (K := K) (evd_of (rlE x1 rfl) (dp_ex x1 _ _ q1)) (evd_of hlv (dp_ex x1 _ _ dlv)) (src_shaped hgl) (src_shaped (hG.good n hn))) ?_
      rw [eqv_src hgl (hG.good n hn)]
    by_cases hlines : rc.lines = (st.cell n).src
    · have eS : holdsB st n fr = rc.asked.all (okAsk st n fr) := by unfold holdsB; rw [hrec]; simp [hlines]
      rw [eS] at k1
      refine s_skip (H0 := H1) (et_is (et_or (a := false) (b := false) (et_is (et_test (ev_isN (ev_var rfl))) rfl) fun _ => et_is (et_test cmp) (by simp [hlines])) rfl) (Ex.refl _) fun H2 e2 => ?_
      have x2 := x1.trans e2
      dsimp only
      refine s_forL (K := K) (A := B) (g := gTup K 2 (gCons (gName 4) (gCons (gName 5) gNil))) (evd_of (ev_fld (K := K) (H := B) (ev_var rfl) hp U.cR (U.nR (by decide)) rfl) q2) x2 fun H3 Hd gr => ?_
      refine ⟨fun j σ' H' => ∃ B' o4 o5 o6, σ' = [some (.ref nb), some (.int (n : Int)), some v2, some (.ref p), o4, o5, o6] ∧ Gr B H H' B' ∧ rc.asked.all (okAsk st n fr) = (rc.asked.drop j).all (okAsk st n fr) ∧ Ex Hd B', ⟨Hd, none, none, none, rfl, (Gr.base x (e1.trans e2)).seq gr, rfl, Ex.refl _⟩, fun j σ' H' ⟨B', o4, o5, o6, _, g', _, xx⟩ => xx.trans g'.d2, ?_, ?_⟩
      · rintro j v d σ' H' hj hv ⟨B', o4, o5, o6, rfl, g', hgo, xx⟩
        rw [List.getElem?_map] at hj
        obtain ⟨⟨z, kz⟩, hq, rfl⟩ := Option.map_eq_some_iff.mp hj
        have hj8 : j < rc.asked.length := (List.getElem?_eq_some_iff.mp hq).1
        have dr : rc.asked.drop j = (z, kz) :: rc.asked.drop (j + 1) := by
          rw [List.drop_eq_getElem_cons hj8]
          congr 1
          rw [List.getElem?_eq_getElem hj8] at hq
          exact Option.some.inj hq
        refine g_pair (K := K) (d := .str z) (e := encO kz) (dp_ex xx _ _ hv) g'.d2 fun a b da db => ?_
        have ea := dp_str da
        have eb := encO_inv db
        subst ea
        subst eb
        have hN' := L.toNB.gr g'
        have x' := g'.d2
        dsimp only
        refine s_asgB (K := K) (evb_q (K := K) (T := W) (st := st) (R := R_setter) (fun _ _ _ => rfl) (ev_var rfl) hN' hG (ebs_cons (evb_i x' (ev_var rfl)) (ebs_cons (evb_v x' (ev_var rfl) (.str z)) (ebs_nil x'))) ⟨n, z, rfl, hn, rfl⟩) fun v H4 B4 g4 d4 => ?_
        have ei := encI_inv d4
        subst ei
        have g5 := g'.seq g4
        have hN4 := hN'.gr g4
        have x4 := g5.d2
        have d24 : Dt K B4 v2 (natL fr) := dp_ex g5.xd _ _ d2
        dsimp only
        refine s_seqP (fun σ' H' => σ' = [some (.ref nb), some (.int (n : Int)), some v2, some (.ref p), some (.str z), some (encOV kz), some (encIV (setterF st n z))] ∧ Ex H4 H' ∧ ∀ m, setterF st n z = some m → m ∈ fr) ?fin fun fin => ?_
        case fin =>
          rintro _ H5 ⟨rfl, e5, hmf⟩
          have hN5 := hN4.ex e5
          have x5 := hN5.x
          have g6 := g5.seq (Gr.base x4 e5)
          refine s_ifN (H0 := H5) (b := !decide (kz = lastT st (setterF st n z) z)) (et_is (et_test (evb_ne (K := K) (evb_v x5 (ev_var rfl) (dt_encO kz)) (evb_q (K := K) (T := W) (st := st) (R := R_last) (fun _ _ _ => rfl) (ev_var rfl) hN5 hG (ebs_cons (evb_v x5 (ev_var rfl) (dt_encI _)) (ebs_cons (evb_v x5 (ev_var rfl) (.str z)) (ebs_nil x5))) ⟨setterF st n z, z, rfl, fun m hm => hfr m (hmf m hm), rfl⟩) (shaped_encO _) (shaped_encO _))) (by rw [eqv_encO])) (Ex.refl _) (fun hb H6 e6 => ?_) fun hb H6 e6 => ?_
          · have hne : kz ≠ lastT st (setterF st n z) z := by simpa using hb
            have e0 : rc.asked.all (okAsk st n fr) = false := by
              rw [hgo, dr, List.all_cons]
              unfold okAsk
              dsimp only
              cases hs : setterF st n z with
              | none => rw [hs] at hne; dsimp only; rw [decide_eq_false (show ¬ kz = none from hne), Bool.false_and]
              | some m => rw [hs] at hne; dsimp only; rw [decide_eq_false hne, Bool.and_false, Bool.false_and]
            rw [e0] at k1
            exact s_ret ev_c fun H7 e7 => k1 _ rfl _ H7 B4 (g6.seq (Gr.base x5 (e6.trans e7))) (.bl _)
          · have heq : kz = lastT st (setterF st n z) z := by simpa using hb
            refine ⟨B4, _, _, _, rfl, g6.seq (Gr.base x5 e6), ?_, xx.trans g4.xd⟩
            rw [hgo, dr, List.all_cons]
            have : okAsk st n fr (z, kz) = true := by
              unfold okAsk
              dsimp only
              cases hs : setterF st n z with
              | none => rw [hs] at heq; dsimp only; exact decide_eq_true heq
              | some m => rw [hs] at heq; dsimp only; rw [decide_eq_true heq, decide_eq_true (hmf m hs)]; rfl
            rw [this, Bool.true_and]
        cases hs : setterF st n z with
        | none =>
          rw [hs] at fin
          refine s_skip (H0 := H4) (et_is (et_and (a := false) (b := false) (et_is (et_test (ev_notN (ev_var rfl))) rfl) fun z => nomatch z) rfl) (Ex.refl _) fun H5 e5 => ?_
          exact fin _ _ ⟨rfl, e5, fun m hm => nomatch hm⟩
        | some m =>
          rw [hs] at fin
          refine s_ifN (H0 := H4) (b := !decide (m ∈ fr)) (et_is (et_and (a := true) (b := !decide (m ∈ fr)) (et_is (et_test (ev_notN (ev_var rfl))) rfl) fun _ => et_is (et_test (evb_inL (K := K) (B := B4) (neg := true) (d := .int (m : Int)) (evb_v x4 (ev_var rfl) (.int _)) (evb_v x4 (ev_var rfl) d24) rfl (flat_nats fr))) (by rw [inD_nats]; rfl)) (Bool.true_and _)) (Ex.refl _) (fun hb H5 e5 => ?_) fun hb H5 e5 => ?_
          · have hm : m ∉ fr := by simpa using hb
            have e0 : rc.asked.all (okAsk st n fr) = false := by
              rw [hgo, dr, List.all_cons]
              unfold okAsk
              dsimp only
              rw [hs]
              dsimp only
              rw [decide_eq_false hm, Bool.false_and, Bool.false_and]
            rw [e0] at k1
            exact s_ret ev_c fun H7 e7 => k1 _ rfl _ H7 B4 (g5.seq (Gr.base x4 (e5.trans e7))) (.bl _)
          · exact fin _ _ ⟨rfl, e5, fun m' hm' => by cases hm'; simpa using hb⟩
      · rintro σ' H' ⟨B', o4, o5, o6, rfl, g', hgo, xx⟩
        rw [List.length_map, List.drop_eq_nil_of_le (Nat.le_refl _)] at hgo
        have hgo : rc.asked.all (okAsk st n fr) = true := hgo
        rw [hgo] at k1
        dsimp only
        refine s_ret ev_c fun H6 e6 => ?_
        exact k1 _ rfl _ H6 B' (g'.seq (Gr.base g'.d2 e6)) (.bl _)
    · have eS : holdsB st n fr = false := by unfold holdsB; rw [hrec]; simp [hlines]
      rw [eS] at k1
      refine s_yes (H0 := H1) (et_is (et_or (a := false) (b := true) (et_is (et_test (ev_isN (ev_var rfl))) rfl) fun _ => et_is (et_test cmp) (by simp [hlines])) rfl) (Ex.refl _) fun H2 e2 => ?_
      exact s_ret ev_c fun H3 e3 => k1 _ rfl _ H3 B (Gr.base x (e1.trans (e2.trans e3))) (.bl _)
theorem sc_Notebook_last_told : FnScope ["self", "number", "name"] ["self", "number", "name"] (defScope s_Notebook_last_told) := ⟨rfl, rfl, rfl, by decide +kernel, rfl, by decide +kernel, by decide +kernel⟩
theorem ok_Notebook_last_told {f : Addr} {fd : FuncData}  {W : NbC} (U : NbT K W) (F : FnP K "last_told" "Notebook.last_told" s_Notebook_last_told f fd) (g : Meth K W.N "last_told" f) (T : Tx mg) : HasM P w K mg base CX0 1 W.N "last_told" ["self", "number", "name"] (spNq K W R_last) := by
  have nd := (sc_Notebook_last_told).nd
  refine hasM_p F g (F.bindsN fun _ _ _ _ _ _ us hl => match us, hl with | [_, _, _], _ => rfl) sc_Notebook_last_told (by rintro _ _ _ _ ⟨_, _, _, _, _, _, _, rfl, _, _, hd, ⟨_, _, rfl, _⟩, _⟩; exact congrArg (· + 1) (dpAll_len hd)) (fun cdv A outer s H vs Q E hr h => ?_)
  obtain ⟨M, B, nb, st, ws, _, o, rfl, hN, hG, hd, ⟨om, z, rfl, hm, rfl⟩, k1, k2⟩ := h
  obtain ⟨v1, v2, rfl, d1, d2⟩ := dts2 hd
  have ei := encI_inv d1
  subst ei
  have ei := dp_str d2
  subst ei
  obtain ⟨dn, c, r, kvs, ad, L⟩ := hN
  refine ⟨_, (pss_cons (ps_if (pt_cmpR op_isN (pv 1) pe_non (nomark _)) (pss_one (ps_ret pe_non)) pss_nil)
      (pss_one (ps_ret (pe_dget2 (Nat.lt_of_le_of_lt (Nat.add_le_add_left (by decide) _) hr.units) (kFld (K := K) rfl (kFld (K := K) rfl (pe_dget (Nat.lt_of_le_of_lt (Nat.add_le_add_left (by decide) _) hr.units) (kFld (K := K) rfl (pv 0)) (pv 1) (fun _ _ => rfl)))) (pv 2) pe_non ⟨rfl, rfl, rfl, rfl⟩)))), ?_⟩
  cases om with
  | none =>
    refine s_yes (H0 := H) (et_is (et_test (ev_isN (ev_var rfl))) rfl) (Ex.refl _) fun H1 e1 => ?_
    exact s_ret ev_c fun H2 e2 => k1 _ rfl _ H2 B (Gr.base L.x (e1.trans e2)) .non
  | some m =>
    obtain ⟨hmr, rc, hrc⟩ := hm m rfl
    refine s_skip (H0 := H) (et_is (et_test (ev_isN (ev_var rfl))) rfl) (Ex.refl _) fun H1 e1 => ?_
    have L1 := L.ex e1
    dsimp only
    obtain ⟨rv, h1, h2⟩ := L1.recE U hmr (L1.atE U (ta := tVar 0) (ty := tVar 1) (σ := start ["self", "number", "name"] [.ref nb, .int (m : Int), .str z]) (ev_var rfl) (ev_var rfl) hmr)
    rw [hrc] at h2
    obtain ⟨p, dx, lv, av, sv, dv, wv, rfl, hp, q1, q2, q3, q4, q5⟩ := h2
    have e4 : B dv = some (.dK (encM rc.sets)) := q4
    refine s_ret (ev_get2 (k := .inr z) (z := .non) (ev_fld (K := K) h1 (L1.x _ _ hp) U.cR (U.nR (by decide)) rfl) (L1.x _ _ e4) (ev_var rfl) ev_c) fun H2 e2 => ?_
    have ev : (valV (encM rc.sets) (.inr z)).getD .non = encOV (lastT st (some m) z) := by
      rw [encM_val]
      show _ = encOV (match (st.cell m).recd with | none => none | some r => r.sets.lookup z)
      rw [hrc]
      show _ = encOV (rc.sets.lookup z)
      cases rc.sets.lookup z <;> rfl
    rw [ev]
    exact k1 _ rfl _ H2 B (Gr.base L.x (e1.trans e2)) (dt_encO _)
theorem sc_Notebook_fresh : FnScope ["self", "found", "number"] ["self"] (defScope s_Notebook_fresh) := ⟨rfl, rfl, rfl, by decide +kernel, rfl, by decide +kernel, by decide +kernel⟩
theorem ok_Notebook_fresh {f : Addr} {fd : FuncData}  {W : NbC} (U : NbT K W) (h_Notebook_holds : HasM P w K mg base CX0 5 W.N "holds" ["self", "number", "fresh"] (spNq K W R_holds)) (F : FnP K "fresh" "Notebook.fresh" s_Notebook_fresh f fd) (g : Meth K W.N "fresh" f) (T : Tx mg) : HasM P w K mg base CX0 6 W.N "fresh" ["self"] (spNq K W R_fresh) := by
  have nd := (sc_Notebook_fresh).nd
  refine hasM_p F g (F.bindsN fun _ _ _ _ _ _ us hl => match us, hl with | [_], _ => rfl) sc_Notebook_fresh (by rintro _ _ _ _ ⟨_, _, _, _, _, _, _, rfl, _, _, hd, ⟨rfl, _⟩, _⟩; exact congrArg (· + 1) (dpAll_len hd)) (fun cdv A outer s H vs Q E hr h => ?_)
  obtain ⟨M, B, nb, st, ws, _, o, rfl, hN, hG, hd, ⟨rfl, hV, rfl⟩, k1, k2⟩ := h
  cases hd
  obtain ⟨dn, c, r, kvs, ad, L⟩ := hN
  refine ⟨_, (pss_cons (ps_set (i := 1) nd rfl (Or.inl rfl) (pe_lst pa_nil))
      (pss_cons (ps_for PassesOwn.never rfl (kSeq (K := K) rfl (kFld (K := K) rfl (pv 0))) (pg_name (i := 2) nd rfl (Or.inl rfl)) (pss_one (ps_if (PW.pt (pw_and (pt_not (kTruth (K := K) rfl (kFld (K := K) rfl (pe_dget (Nat.lt_of_le_of_lt (Nat.add_le_add_left (by decide) _) hr.units) (kFld (K := K) rfl (pv 0)) (pv 2) (fun _ _ => rfl))))) (pw_and1 (kTruth (K := K) rfl (pe_hm (pv 0) U.cN h_Notebook_holds hr (by omega) (passA pass0) (pa_cons (pv 2) (pa_cons (pv 1) pa_nil))))))) (pss_one (ps_expr (pe_bm PySem.F.plainAttrs_list PySem.F.slot_list_append PySem.F.type_list_append mt_append (pv 1) (pa_cons (pv 2) pa_nil)))) pss_nil)))
      (pss_one (ps_ret (pv 1))))), ?_⟩
  refine s_asgL (i := 1) (el_lst ea_nil (by simp)) fun p H1 hp e1 h1 => ?_
  dsimp only
  refine s_forL (K := K) (A := H) (evd_of (L.rowE U (ev_var rfl)) L.dtRow) e1 fun H2 Hd gr => ?_
  have hdp : Hd p = none := gr.fr p hp (by rw [h1]; exact fun z => nomatch z)
  refine ⟨fun i σ' H' => (∃ o2, σ' = [some (.ref nb), some (.ref p), o2]) ∧ Ex Hd H' ∧ H' p = some (.lst ((freshGo st (st.row.take i)).map fun m : Nat => V.int (m : Int))), ⟨⟨none, rfl⟩, gr.d2, gr.ex _ _ h1⟩, fun i σ' H' z => z.2.1, ?_, ?_⟩
  · rintro i v d σ' H' hi hv ⟨⟨o2, rfl⟩, xd, p3⟩
    rw [List.getElem?_map] at hi
    obtain ⟨n, hj, rfl⟩ := Option.map_eq_some_iff.mp hi
    have hn := List.mem_of_getElem? hj
    have htk : st.row.take (i + 1) = st.row.take i ++ [n] := by rw [List.take_add_one, hj]; rfl
    have ei := dp_int hv
    subst ei
    have L3 := L.ex (gr.xd.trans xd)
    have pb : B p = none := fresh_back L.x hp
    have x3 := ex_own L3.x p3
    have L4 := L3.base (Ex.new pb) x3 fun a ha => by
      rw [upd_ne (fun z : a = p => (L.m a ha).2 (by rw [z]; exact hp))]
      exact (L.m a ha).1
    have sub := freshGo_sub st (st.row.take i)
    have len := freshGo_len st (st.row.take i)
    have len2 := hG.len
    rw [List.length_take] at len
    refine s_ifN (H0 := H') (et_and (et_not (et_b (L3.struckE U hn (L3.atE U (ev_var rfl) (ev_var rfl) hn)))) fun _ => et_b (evB_bl (evb_q (K := K) (T := W) (st := st) (R := R_holds) (fun _ _ _ => rfl) (ev_var rfl) L4.toNB hG (ebs_cons ((evd_var (.int _)).toB x3) (ebs_cons ((evd_var (.lst upd_same (dt_nats _))).toB x3) (ebs_nil x3))) ⟨n, _, rfl, hn, hV, fun m hm => ⟨List.mem_of_mem_take (sub m hm).1, (sub m hm).2.2⟩, rfl⟩))) (Ex.refl _) (fun hb H5 e5 => ?_) fun hb H5 e5 => ?_
    · refine Evl.s_app (K := K) (v := .int (n : Int)) (e5 _ _ p3) (ev_var rfl) (ev_var rfl) (by rw [List.length_map]; omega) fun H6 e6 => ?_
      refine ⟨⟨_, rfl⟩, ex_upd ((xd.trans e5).trans e6) hdp, ?_⟩
      rw [upd_same, htk, freshGo_snoc, if_pos hb, List.map_append]
      rfl
    · refine ⟨⟨_, rfl⟩, xd.trans e5, ?_⟩
      rw [htk, freshGo_snoc, if_neg (by rw [hb]; exact fun z => nomatch z)]
      exact e5 _ _ p3
  · rintro σ' H' ⟨⟨o2, rfl⟩, xd, p3⟩
    rw [List.length_map, List.take_length] at p3
    dsimp only
    refine s_ret (ev_var rfl) fun H5 e5 => ?_
    exact flat_ret (k1 _ rfl) L.x ((gr.xd.trans xd).trans e5) hp (e5 _ _ p3) (dt_nats _) rfl
theorem sc_Notebook_state : FnScope ["self", "number"] ["self", "number"] (defScope s_Notebook_state) := ⟨rfl, rfl, rfl, by decide +kernel, rfl, by decide +kernel, by decide +kernel⟩
theorem ok_Notebook_state {f : Addr} {fd : FuncData}  {W : NbC} (U : NbT K W) {c_NoCell : Addr} (h_Notebook_fresh : HasM P w K mg base CX0 6 W.N "fresh" ["self"] (spNq K W R_fresh)) (h_Notebook_look_cell : HasM P w K mg base (L2.CX P w) 2 W.N "look_cell" ["self", "number"] (spNq K W (R_look_cell c_NoCell))) (F : FnP K "state" "Notebook.state" s_Notebook_state f fd) (g : Meth K W.N "state" f) (T : Tx mg) : HasM P w K mg base (L2.CX P w) 7 W.N "state" ["self", "number"] (spNq K W (R_state c_NoCell)) := by
  have nd := (sc_Notebook_state).nd
  refine hasM_x F g (F.bindsN fun _ _ _ _ _ _ us hl => match us, hl with | [_, _], _ => rfl) sc_Notebook_state (by rintro _ _ _ _ ⟨_, _, _, _, _, _, _, rfl, _, _, hd, ⟨_, rfl, _⟩, _⟩; exact congrArg (· + 1) (dpAll_len hd)) (fun cdv A outer s H vs Q E hr h => ?_)
  obtain ⟨M, B, nb, st, ws, _, o, rfl, hN, hG, hd, ⟨d, rfl, hV, hf⟩, k1, k2⟩ := h
  obtain ⟨v1, rfl, d1⟩ := dts1 hd
  obtain ⟨dn, c, r, kvs, ad, L⟩ := hN
  refine ⟨_, (pss_cons (ps_expr (pe_hm (pv 0) U.cN h_Notebook_look_cell hr (by omega) (passA (passes_call (takes_of rfl rfl rfl rfl) fun _ _ _ _ h => h)) (pa_cons (pv 1) pa_nil)))
      (pss_cons (ps_if (kTruth (K := K) rfl (kFld (K := K) rfl (pe_dget (Nat.lt_of_le_of_lt (Nat.add_le_add_left (by decide) _) hr.units) (kFld (K := K) rfl (pv 0)) (pv 1) (fun _ _ => rfl)))) (pss_one (ps_ret pe_str)) pss_nil)
      (pss_cons (ps_if (pt_cmpR op_isN (kFld (K := K) rfl (pe_dget (Nat.lt_of_le_of_lt (Nat.add_le_add_left (by decide) _) hr.units) (kFld (K := K) rfl (pv 0)) (pv 1) (fun _ _ => rfl))) pe_non (nomark _)) (pss_one (ps_ret pe_str)) pss_nil)
      (pss_one (ps_ret (pe_ifExp (pt_cmpR (kIn (K := K) rfl) (pv 1) (pe_hm0 (pv 0) U.cN h_Notebook_fresh hr (by omega) (passA pass0)) rfl) pe_str pe_str)))))), ?_⟩
  refine s_q (K := K) (T := W) (st := st) (fun _ _ _ => rfl) (ev_var rfl) L.toNB hG (ebs_cons ((evd_var d1).toB L.x) (ebs_nil L.x)) ⟨d, rfl, rfl⟩ (fun z e H1 e1 => ?_) fun cc e H1 e1 => ?_
  rotate_left
  · rcases hf with ⟨h, ho⟩ | ⟨n, hn, rfl, ho⟩
    · rw [h] at e
      cases e
      exact k2 _ ho H1 e1
    · rw [cell_int hn] at e
      cases e
  rcases hf with ⟨h, ho⟩ | ⟨n, hn, rfl, rfl⟩
  · rw [h] at e
    cases e
  have ei := dp_int d1
  subst ei
  have L1 := L.ex e1
  dsimp only
  have fin : ∀ (x : Str) v H' B', Gr B H H' B' → x = stateW st n → v = V.str x → Q v H' := fun x v H' B' g e1 e2 => by
    subst e1
    subst e2
    exact k1 _ rfl _ H' B' g (.str _)
  refine s_ifN (H0 := H1) (et_b (L1.struckE U hn (L1.atE U (ev_var rfl) (ev_var rfl) hn))) (Ex.refl _) (fun hb H2 e2 => ?_) fun hb H2 e2 => ?_
  · exact s_ret ev_c fun H4 e4 => fin _ _ H4 B (Gr.base L.x ((e1.trans e2).trans e4)) (by unfold stateW; rw [if_pos hb]) rfl
  have L2 := L1.ex e2
  dsimp only
  obtain ⟨rv, h1, h2⟩ := L2.recE U hn (L2.atE U (ta := tVar 0) (ty := tVar 1) (σ := start ["self", "number"] [.ref nb, .int (n : Int)]) (ev_var rfl) (ev_var rfl) hn)
  have hst : ¬ (st.cell n).struck = true := by rw [hb]; exact fun z => nomatch z
  cases hrec : (st.cell n).recd with
  | none =>
    rw [hrec] at h2
    have h2 : rv = .non := h2
    subst h2
    refine s_yes (H0 := H2) (et_is (et_test (ev_isN h1)) rfl) (Ex.refl _) fun H3 e3 => ?_
    exact s_ret ev_c fun H4 e4 => fin _ _ H4 B (Gr.base L.x (((e1.trans e2).trans e3).trans e4)) (by unfold stateW; rw [if_neg hst, if_pos hrec]) rfl
  | some rc =>
    rw [hrec] at h2
    obtain ⟨p, dx, lr, av, sv, dv, wv, rfl, hp, q1, q2, q3, q4, q5⟩ := h2
    refine s_skip (H0 := H2) (et_is (et_test (ev_isN h1)) rfl) (Ex.refl _) fun H3 e3 => ?_
    have L3 := L2.ex e3
    dsimp only
    have hrn : ¬ (st.cell n).recd = none := by rw [hrec]; exact fun z => nomatch z
    refine x_if (H0 := H3) (b := decide (n ∈ freshL st)) (et_is (et_test (evb_inL (K := K) (B := B) (neg := false) (evb_i L3.x (ev_var rfl)) (evb_q (K := K) (T := W) (st := st) (R := R_fresh) (fun _ _ _ => rfl) (ev_var rfl) L3.toNB hG (ebs_nil L3.x) ⟨rfl, hV, rfl⟩) rfl (flat_nats _))) (by rw [inD_nats]; rfl)) (Ex.refl _) (fun hb H5 e5 => ?_) fun hb H5 e5 => ?_
    · exact fin _ _ H5 B (Gr.base L.x (((e1.trans e2).trans e3).trans e5)) (by unfold stateW; rw [if_neg hst, if_neg hrn, if_pos (of_decide_eq_true hb)]) rfl
    · exact fin _ _ H5 B (Gr.base L.x (((e1.trans e2).trans e3).trans e5)) (by unfold stateW; rw [if_neg hst, if_neg hrn, if_neg (of_decide_eq_false hb)]) rfl
theorem sc_Notebook_demand : FnScope ["self", "number", "good", "ran", "asked", "told"] ["self", "number", "good", "ran"] (defScope s_Notebook_demand) := ⟨rfl, rfl, rfl, by decide +kernel, rfl, by decide +kernel, by decide +kernel⟩
theorem ok_Notebook_demand {f : Addr} {fd : FuncData} {TT : List NdefX.NTab} {e i : Nat} {Pt : Addr} {nm : Nat → Nat → Str} (hPt : (Pt, nm) ∈ TT) {W : NbC} (U : NbT K W) (h_Notebook_stands : HasMR P w K mg base CX0 (e + 2) W.N "stands" ["self", "number", "good", "ran"] (spStands K W TT i)) (i_Record : HasI P w K mg base CX0 1 W.R "Record" ["self", "source", "asked", "told"] (spRecI K W)) (h_done : HasR P w K mg base CX0 (e + 10) "done" ["source", "ask"] (spDone K c_Failed (mkP s_Notebook_asker_ask "ask" "Notebook.asker.<locals>.ask") askFr (spAsk K c_Failed W TT i))) (h_Notebook_asker : HasM P w K mg base CX0 1 W.N "asker" ["self", "number", "asked", "good", "ran"] (spMk TT Pt (mkP s_Notebook_asker_ask "ask" "Notebook.asker.<locals>.ask") ["self", "number", "asked", "good", "ran"])) (F : FnP K "demand" "Notebook.demand" s_Notebook_demand f fd) (g : Meth K W.N "demand" f) (T : Tx mg) : HasMR P w K mg base CX0 (e + 11) W.N "demand" ["self", "number", "good", "ran"] (spDem K W TT (i + 1)) := by
  have nd := (sc_Notebook_demand).nd
  refine hasMR_p F g (F.bindsN fun _ _ _ _ _ _ us hl => match us, hl with | [_, _, _, _], _ => rfl) sc_Notebook_demand (by rintro _ _ _ _ ⟨_, _, _, _, _, _, _, _, rfl, _⟩; rfl) (fun cdv A outer s H vs Q E hR h => ?_)
  have hr := hR.room18
  obtain ⟨st, M, B, nb, gd, rn, g0, n, rfl, RSt, Sx, hn, hi, k⟩ := h
  have x := RSt.x
  have G := Sx.G
  refine ⟨_, (pss_cons (ps_if (pt_cmp (pc_din (Nat.lt_of_le_of_lt (Nat.add_le_add_left (by decide) _) hr.units) (pv 1) (pv 2))) (pss_one ps_retN) pss_nil)
      (pss_cons (ps_if (pt_not (kTruth (K := K) rfl (pe_hmR (pv 0) U.cN h_Notebook_stands hR (by omega) (passA pass0) (pa_cons (pv 1) (pa_cons (pv 2) (pa_cons (pv 3) pa_nil)))))) (pss_cons (ps_set (i := 4) nd rfl (Or.inl rfl) (pe_lst pa_nil))
      (pss_cons (ps_set (i := 5) nd rfl (Or.inl rfl) (pe_hasR h_done hR (by omega) rfl (passA pass0) (pa_cons (kFld (K := K) rfl (pe_dget (Nat.lt_of_le_of_lt (Nat.add_le_add_left (by decide) _) hr.units) (kFld (K := K) rfl (pv 0)) (pv 1) (fun _ _ => rfl))) (pa_cons (pe_hm (pv 0) U.cN h_Notebook_asker hr (by omega) (passA pass0) (pa_cons (pv 1) (pa_cons (pv 4) (pa_cons (pv 2) (pa_cons (pv 3) pa_nil))))) pa_nil))))
      (pss_cons (kSetFld (K := K) rfl (pe_dget (Nat.lt_of_le_of_lt (Nat.add_le_add_left (by decide) _) hr.units) (kFld (K := K) rfl (pv 0)) (pv 1) (fun _ _ => rfl)) (pe_mk i_Record hr (by omega) rfl pass0 (pa_cons (kFld (K := K) rfl (pe_dget (Nat.lt_of_le_of_lt (Nat.add_le_add_left (by decide) _) hr.units) (kFld (K := K) rfl (pv 0)) (pv 1) (fun _ _ => rfl))) (pa_cons (pv 4) (pa_cons (pv 5) pa_nil)))))
      (pss_one (ps_expr (pe_bm PySem.F.plainAttrs_list PySem.F.slot_list_append PySem.F.type_list_append mt_append (pv 3) (pa_cons (pv 1) pa_nil))))))) pss_nil)
      (pss_one (ps_dput (Nat.lt_of_le_of_lt (Nat.add_le_add_left (by decide) _) hr.units) (pv 2) (pv 1) pe_bl rfl)))), ?_⟩
  refine s_ifN (H0 := H) (b := decide (n ∈ g0)) (et_is (et_B (ev_din (k := .inl (n : Int)) (ev_var rfl) (ev_var rfl) RSt.hg)) (val_good n g0)) (Ex.refl _) (fun hb H1 e1 => ?_) fun hb H1 e1 => ?_
  · have hb := of_decide_eq_true hb
    exact k H1 B M (Fr.of (Gr.base x e1)) (by rw [visit_succ, if_pos hb]; exact RSt.ex e1)
  have hng := of_decide_eq_false hb
  rw [visit_succ, if_neg hng, standB_val] at k
  have R1 := RSt.ex e1
  have f1 : Fr M M B H H1 B := Fr.of (Gr.base x e1)
  dsimp only
  refine s_seqP (fun σ' H' => ∃ o4 o5 g', σ' = [some (.ref nb), some (.int (n : Int)), some (.ref gd), some (.ref rn), o4, o5] ∧ H' gd = some (.dK (g'.map fun m : Nat => ((Sum.inl (m : Int) : Key), V.bl true))) ∧ n ∉ g' ∧ g'.length ≤ 30 ∧ ∀ H2, Ex H' H2 → Q .non (upd H2 gd (.dK ((g' ++ [n]).map fun m : Nat => ((Sum.inl (m : Int) : Key), V.bl true))))) ?fin fun fin => ?_
  case fin =>
    rintro σ' H' ⟨o4, o5, g', rfl, hg', hn', hl', kk⟩
    refine s_dput (k := .inl (n : Int)) (v := .bl true) ev_c (ev_var rfl) (ev_var rfl) hg' (by rw [List.length_map]; omega) fun H2 e2 => ?_
    rw [put_good hn']
    exact kk H2 e2
  obtain ⟨Mn1, hN1, _⟩ := R1.nB
  obtain ⟨dn1, c1, r1, kvs1, ad1, L1⟩ := hN1
  refine tt_not ⟨.ref nb, rfl, nb, dn1, _, rfl, L1.hn, rfl, .int (n : Int), rfl, .ref gd, rfl, .ref rn, rfl, ?_⟩
  refine ⟨st, M, B, nb, gd, rn, g0, n, rfl, R1, Sx, hn, hng, by omega, fun H2 B2 M2 f2 R2 => ⟨_, rfl, ?_⟩⟩
  have hsub := stand_sub (k := i) G.nd hn hng
  have len30 : ∀ {g' : List Nat}, g'.Nodup → (∀ m ∈ g', m ∈ st.row) → g'.length ≤ 30 := fun nd sb => Nat.le_trans (nodup_len nd sb) G.len
  rw [standB_val]
  generalize hg1 : (standB st (visName st i n) n g0).2 = g1 at *
  have F2 := f1.trans f2
  cases hs : standsB st n with
  | true =>
    rw [hs, if_pos rfl] at k
    rw [if_neg (by decide)]
    obtain ⟨rc, hrc⟩ : ∃ rc, (st.cell n).recd = some rc := by
      cases q : (st.cell n).recd with
      | none => unfold standsB at hs; rw [q] at hs; cases hs
      | some rc => exact ⟨rc, rfl⟩
    have hm := mix_stand hsub.1 hrc (stand_pure hrc (Sx.V n hn rc hrc).1 hs)
    refine fin _ _ ⟨_, _, g1, rfl, R2.hg, hsub.1, len30 R2.nd R2.sub, fun H3 e3 => ?_⟩
    have R3 := R2.ex e3
    obtain ⟨R4, f4⟩ := R3.stand hsub.1 hn hs hm
    exact k _ B2 M2 ((F2.trans (Fr.of (Gr.base R2.x e3))).trans f4) R4
  | false =>
    rw [hs, if_neg (by decide)] at k
    rw [if_pos (by decide)]
    refine s_lnew fun pa hpa => ?_
    have e3 : Ex H2 (upd H2 pa (.lst [])) := Ex.new hpa
    have hp3 : upd H2 pa (.lst []) pa = some (.lst []) := upd_same
    generalize upd H2 pa (.lst []) = H3 at *
    have R3 := R2.ex e3
    have x3 := R3.x
    have nMpa : ¬ M2 pa := fun z => (R2.m _ z).2 hpa
    have bpa : B2 pa = none := fresh_back R2.x hpa
    obtain ⟨Mn3, hN3, _⟩ := R3.nB
    obtain ⟨dn3, c3, r3, kvs3, ad3, L3⟩ := hN3
    have hn3 : n ∈ (mix st g1).row := hn
    obtain ⟨lv, hlv, dlv⟩ := L3.linesE U hn3 (L3.atE U (ta := tVar 0) (ty := tVar 1) (σ := List.set (start ["self", "number", "good", "ran", "asked", "told"] [.ref nb, .int (n : Int), .ref gd, .ref rn]) 4 (some (.ref pa))) (ev_var rfl) (ev_var rfl) hn3)
    rw [mix_src] at dlv
    have hg := G.good n hn
    dsimp only
    refine s_doneA hlv fun H4 e4 => ?_
    have R4 := R3.ex e4
    have L4 := L3.ex e4
    refine ⟨.ref nb, rfl, nb, dn3, _, rfl, L4.hn, rfl, .int (n : Int), rfl, .ref pa, rfl, .ref gd, rfl, .ref rn, rfl, rfl, R4.tb, fun fa Fn H5 hmk kp ks kt ktt kto hfa hcs clo => ?_⟩
    obtain ⟨R5, f5⟩ := R4.kp hPt kp ks kt ktt
    have hp4 : H4 pa = some (.lst []) := e4 _ _ hp3
    have hp5 : H5 pa = some (.lst []) := f5.fr pa _ hp4 nMpa
    have nr4 : ∀ a, H4 a = none → ¬ (M2 a ∨ a = pa) ∧ B2 a = none := fun a h => by
      refine ⟨fun z => ?_, fresh_back R4.x h⟩
      rcases z with z | z
      · exact (R4.m a z).2 h
      · rw [z, hp4] at h
        cases h
    have j5 : JA K W TT (mkP s_Notebook_asker_ask "ask" "Notebook.asker.<locals>.ask") st nb gd rn pa fa n (g1, []) (fun a => M2 a ∨ a = pa) B2 H5 := by
      refine ⟨⟨⟨M2, R5, fun a => Iff.rfl, nMpa⟩, [], hp5, .nil, bpa⟩, ⟨Fn, hmk, clo, fun a ha => ?_⟩, List.nodup_nil, fun x hx => nomatch hx⟩
      rcases ha with ha | ha | ha
      · rw [ha]; exact nr4 fa hfa
      · rw [ha]
        have q := R5.kd _ kto
        refine ⟨fun z => ?_, q.2⟩
        rcases z with z | z
        · exact q.1 z
        · have w := clo.code
          rw [z, hp5] at w
          cases w
      · exact nr4 a (hcs a ha)
    refine ⟨List Nat × Asked, JA K W TT (mkP s_Notebook_asker_ask "ask" "Notebook.asker.<locals>.ask") st nb gd rn pa fa n, stepG (visName st i n) (knownAt st n), fa, lv, (st.cell n).src, (fun a => M2 a ∨ a = pa), B2, (g1, []), srcNames (st.cell n).src, rfl, askSys Sx hn (by omega), fun r hr x hx => List.mem_flatMap.mpr ⟨r, hr, hx⟩, j5, dlv, hg, fun rr s1 hdone tp pf pm wv H6 B6 M6 f6 j6 t1 t2 t3 t4 n1 n2 n3 => ?_⟩
    obtain ⟨pr1, pr2⟩ := done_pure hdone
    rw [hdone] at k hsub
    obtain ⟨Mi, R6, hMi, nMi⟩ := j6.A.R
    obtain ⟨xs, hp6, dp6, bp6⟩ := j6.A.pa
    obtain ⟨g2, as⟩ := s1
    dsimp only at R6 dp6 pr2 hsub k
    have f06 : Fr M2 Mi B2 H2 H6 B6 := Fr.narrow ((Fr.of (Gr.base R2.x (e3.trans e4))).trans f5) f6 hpa hMi nMi nMpa
    obtain ⟨Mn6, hN6, _⟩ := R6.nB
    obtain ⟨dn6, c6, r6, kvs6, ad6, L6⟩ := hN6
    have hn6 : n ∈ (mix st g2).row := hn
    have x6 := R6.x
    obtain ⟨lv6, hlv6, dlv6⟩ := L6.linesE U hn6 (L6.atE U (ta := tVar 0) (ty := tVar 1) (σ := [some (.ref nb), some (.int (n : Int)), some (.ref gd), some (.ref rn), some (.ref pa), some (.ref tp)]) (ev_var rfl) (ev_var rfl) hn6)
    rw [mix_src] at dlv6
    dsimp only
    refine s_rec (T := W) hlv6 (ev_var rfl) (ev_var rfl) (x6 _ _ t1) fun xr dxr H7 hxr e7 h7 => ?_
    have R7 := R6.ex e7
    have x7 := R7.x
    have ne7 : pa ≠ xr := ne_of_none hp6 hxr
    have bpx : upd B6 pa (.lst xs) xr = none := by rw [upd_ne (Ne.symm ne7)]; exact fresh_back x6 hxr
    generalize hB7 : upd (upd B6 pa (.lst xs)) xr (.ins W.R dxr [("lines", lv6), ("asked", .ref pa), ("shown", .ref pf), ("sets", .ref pm), ("why", wv)]) = B7 at *
    have xb1 : Ex B6 (upd B6 pa (.lst xs)) := Ex.new bp6
    have xb2 : Ex (upd B6 pa (.lst xs)) B7 := by rw [← hB7]; exact Ex.new bpx
    have hpa7 : B7 pa = some (.lst xs) := by rw [← hB7, upd_ne ne7]; exact upd_same
    have hxr7 : B7 xr = some (.ins W.R dxr [("lines", lv6), ("asked", .ref pa), ("shown", .ref pf), ("sets", .ref pm), ("why", wv)]) := by rw [← hB7]; exact upd_same
    have out7 : ∀ a, a ≠ pa → a ≠ xr → B7 a = B6 a := fun a h1 h2 => by rw [← hB7, upd_ne h2, upd_ne h1]
    have x77 : Ex B7 H7 := fun a o e => by
      by_cases z1 : a = xr
      · rw [z1, hxr7] at e; cases e; rw [z1]; exact h7
      by_cases z2 : a = pa
      · rw [z2, hpa7] at e; cases e; rw [z2]; exact e7 _ _ hp6
      · rw [out7 a z2 z1] at e; exact x7 _ _ e
    have R77 : RS K W TT st Mi B7 H7 nb gd rn g2 := R7.more (xb1.trans xb2) x77 (fun a ha => by
      rw [out7 a (fun z => nMi (by rw [← z]; exact ha)) (fun z => (R6.m a ha).2 (by rw [z]; exact hxr))]
      exact (R6.m a ha).1) (by
      obtain ⟨bn, dnn, fsn, en⟩ := R6.bn
      rw [out7 nb (fun z => by rw [z, hp6] at en; cases en) (fun z => by rw [z, hxr] at en; cases en)]
      exact bn) fun c hc => by
      obtain ⟨q, hq⟩ := told_code R7.tb hc
      rw [out7 c (fun z => by rw [z, e7 _ _ hp6] at hq; cases hq) (fun z => by rw [z, h7] at hq; cases hq)]
      exact (R7.kd c hc).2
    have dr : RecAt K W B7 (.ref xr) (some (pureRec st n)) := by
      have xx := xb1.trans xb2
      refine ⟨xr, dxr, lv6, .ref pa, .ref pf, pm, wv, rfl, hxr7, dp_ex xx _ _ dlv6, ?_, ?_, ?_, ?_⟩
      · show Dt K B7 (.ref pa) (.list ((pureRun st n).2.map encAsk))
        rw [pr2]
        exact .lst hpa7 (dpAll_ex xx _ _ dp6)
      · show Dt K B7 (.ref pf) (.list ((pureRun st n).1.shown.map PyData.int))
        rw [pr1]
        exact .lst (xx _ _ t2) (dt_ints _)
      · show B7 pm = some (.dK (encM (pureRun st n).1.mine))
        rw [pr1]
        exact xx _ _ t3
      · show Dt K B7 wv (encWhy (pureRun st n).1.why)
        rw [pr1]
        exact dp_ex xx _ _ t4
    have F7 : Fr M Mi B H H7 B7 := by
      have a1 := (F2.trans f06).trans (Fr.of (Gr.base x6 e7))
      have hpa0 : H pa = none := by
        cases q : H pa with
        | none => rfl
        | some o => exact absurd hpa (F2.stay pa (by rw [q]; exact fun z => nomatch z))
      have hxr0 : H xr = none := by
        cases q : H xr with
        | none => rfl
        | some o => exact absurd hxr ((F2.trans f06).stay xr (by rw [q]; exact fun z => nomatch z))
      have a2 := (a1.add hpa0 (e7 _ _ hp6) bp6).add hxr0 h7 bpx
      rw [hB7] at a2
      exact a2
    obtain ⟨Mn7, hN7, hm1, hm2, hm3, hm4⟩ := R77.nB
    obtain ⟨dn7, c7, r7, kvs7, ad7, L7⟩ := hN7
    have hn7 : n ∈ (mix st g2).row := hn
    refine L7.atE U (ta := tVar 0) (ty := tVar 1) (ev_var rfl) (ev_var rfl) hn7 H7 (Ex.refl _) _ fun H8 e8 => ?_
    have L8 := L7.ex e8
    have R8 := R77.ex e8
    obtain ⟨dx8, lv8, rv8, h8, dl8, dr8⟩ := L8.cells n hn7
    rw [mix_src] at dl8
    rw [mix_count, mix_struck] at h8
    refine ⟨ad7 n, W.C, dx8, _, rfl, h8, U.cC, U.nC (by decide), by show 4 < 1000; decide, ?_⟩
    have nra : rn ≠ ad7 n := fun z => hm3 (by rw [z]; exact L7.mad n hn7)
    have nga : gd ≠ ad7 n := fun z => hm2 (by rw [z]; exact L7.mad n hn7)
    have ngr : gd ≠ rn := ne_of R8.hg R8.hr fun z => by cases z
    have hr9 : upd H8 (ad7 n) (.ins W.C dx8 (putF "record" (.ref xr) [("lines", lv8), ("count", .int ((st.cell n).count : Int)), ("struck", .bl (st.cell n).struck), ("record", rv8)])) rn = some (.lst ((g2.filter fun m => !standsB st m).map fun m : Nat => V.int (m : Int))) := by rw [upd_ne nra]; exact R8.hr
    have l30 := len30 R8.nd R8.sub
    dsimp only
    refine Evl.s_app (K := K) (v := .int (n : Int)) hr9 (ev_var rfl) (ev_var rfl) (by rw [List.length_map]; exact Nat.lt_of_le_of_lt (Nat.le_trans (List.length_filter_le _ _) l30) (by decide)) fun H9 e9 => ?_
    refine fin _ _ ⟨_, _, g2, rfl, ?_, hsub.2, l30, fun H10 e10 => ?_⟩
    · rw [upd_ne ngr]
      refine e9 _ _ ?_
      rw [upd_ne nga]
      exact R8.hg
    · obtain ⟨R10, f10⟩ := R8.ran (H' := upd H10 gd (.dK ((g2 ++ [n]).map fun m : Nat => ((Sum.inl (m : Int) : Key), V.bl true)))) (lv := lv8) (rv := .ref xr) (dx := dx8) hsub.2 hn hs L8 hm1 hm2 hm3 hm4 (by
        rw [upd_ne (Ne.symm nga)]
        refine e10 _ _ ?_
        rw [upd_ne (Ne.symm nra)]
        exact e9 _ _ upd_same) dl8 dr (by
        rw [upd_ne (Ne.symm ngr)]
        exact e10 _ _ upd_same) upd_same fun a o h1 h2 h3 ho => by
          rw [upd_ne h3]
          refine e10 _ _ ?_
          rw [upd_ne h2]
          refine e9 _ _ ?_
          rw [upd_ne h1]
          exact ho
      exact k _ B7 Mi ((F7.trans (Fr.of (Gr.base R77.x e8))).trans f10) R10
theorem sc_Notebook_stands : FnScope ["self", "number", "good", "ran", "record", "name", "known"] ["self", "number", "good", "ran"] (defScope s_Notebook_stands) := ⟨rfl, rfl, rfl, by decide +kernel, rfl, by decide +kernel, by decide +kernel⟩
theorem ok_Notebook_stands {f : Addr} {fd : FuncData} {TT : List NdefX.NTab} {e i : Nat} {W : NbC} (U : NbT K W) (h_Notebook_told : HasMR P w K mg base CX0 (e + 1) W.N "told" ["self", "number", "name", "good", "ran"] (spTold K W TT i)) (F : FnP K "stands" "Notebook.stands" s_Notebook_stands f fd) (g : Meth K W.N "stands" f) (T : Tx mg) : HasMR P w K mg base CX0 (e + 2) W.N "stands" ["self", "number", "good", "ran"] (spStands K W TT i) := by
  have nd := (sc_Notebook_stands).nd
  refine hasMR_p F g (F.bindsN fun _ _ _ _ _ _ us hl => match us, hl with | [_, _, _, _], _ => rfl) sc_Notebook_stands (by rintro _ _ _ _ ⟨_, _, _, _, _, _, _, _, rfl, _⟩; rfl) (fun cdv A outer s H vs Q E hR h => ?_)
  have hr := hR.room18
  obtain ⟨st, M, B, nb, gd, rn, g0, n, rfl, RSt, Sx, hn, hng, hi, k⟩ := h
  have x := RSt.x
  have G := Sx.G
  refine ⟨_, (pss_cons (ps_set (i := 4) nd rfl (Or.inl rfl) (kFld (K := K) rfl (pe_dget (Nat.lt_of_le_of_lt (Nat.add_le_add_left (by decide) _) hr.units) (kFld (K := K) rfl (pv 0)) (pv 1) (fun _ _ => rfl))))
      (pss_cons (ps_if (PW.pt (pw_or (pt_cmpR op_isN (pv 4) pe_non (nomark _)) (pw_or1 (pt_cmpR (kNe (K := K) rfl hr.units) (kFld (K := K) rfl (pv 4)) (kFld (K := K) rfl (pe_dget (Nat.lt_of_le_of_lt (Nat.add_le_add_left (by decide) _) hr.units) (kFld (K := K) rfl (pv 0)) (pv 1) (fun _ _ => rfl))) (nomark _))))) (pss_one (ps_ret pe_bl)) pss_nil)
      (pss_cons (ps_for PassesOwn.never rfl (kSeq (K := K) rfl (kFld (K := K) rfl (pv 4))) (pg_tup rfl (pgs_cons (pg_name (i := 5) nd rfl (Or.inl rfl)) (pgs_cons (pg_name (i := 6) nd rfl (Or.inl rfl)) pgs_nil))) (pss_one (ps_if (pt_cmpR (kNe (K := K) rfl hr.units) (pe_hmR (pv 0) U.cN h_Notebook_told hR (by omega) (passA pass0) (pa_cons (pv 1) (pa_cons (pv 5) (pa_cons (pv 2) (pa_cons (pv 3) pa_nil))))) (pv 6) (nomark _)) (pss_one (ps_ret pe_bl)) pss_nil)))
      (pss_one (ps_ret pe_bl))))), ?_⟩
  obtain ⟨Mn, hN, _⟩ := RSt.nB
  obtain ⟨dn, c, r, kvs, ad, L⟩ := hN
  have hn' : n ∈ (mix st g0).row := hn
  obtain ⟨rv, h1, h2⟩ := L.recE U hn' (L.atE U (ta := tVar 0) (ty := tVar 1) (σ := start ["self", "number", "good", "ran", "record", "name", "known"] [.ref nb, .int (n : Int), .ref gd, .ref rn]) (ev_var rfl) (ev_var rfl) hn')
  rw [mix_rec_out hng] at h2
  refine s_asg h1 fun H1 e1 => ?_
  have R1 := RSt.ex e1
  have L1 := L.ex e1
  have f1 : Fr M M B H H1 B := Fr.of (Gr.base x e1)
  dsimp only
  have at1 : Ev (tDGet (tFld K (tVar 0) "cells") (tVar 1)) ((start ["self", "number", "good", "ran", "record", "name", "known"] [.ref nb, .int (n : Int), .ref gd, .ref rn]).set 4 (some rv)) H1 (.ref (ad n)) := L1.atE U (ev_var rfl) (ev_var rfl) hn'
  obtain ⟨lv, hlv, dlv⟩ := L1.linesE U hn' at1
  rw [mix_src] at dlv
  cases hrec : (st.cell n).recd with
  | none =>
    rw [hrec] at h2
    have h2 : rv = .non := h2
    subst h2
    have eS : standB st (visName st i n) n g0 = (false, g0) := by unfold standB; rw [hrec]
    rw [eS] at k
    refine s_yes (H0 := H1) (et_is (et_or (a := true) (b := false) (et_is (et_test (ev_isN (ev_var rfl))) rfl) fun z => nomatch z) rfl) (Ex.refl _) fun H2 e2 => ?_
    exact s_ret ev_c fun H3 e3 => k H3 B M (f1.trans (Fr.of (Gr.base R1.x (e2.trans e3)))) (R1.ex (e2.trans e3))
  | some rc =>
    rw [hrec] at h2
    obtain ⟨p, dx, lr, av, sv, dv, wv, rfl, hp, q1, q2, q3, q4, q5⟩ := h2
    obtain ⟨vv, hgl, hal, hnm, hsl⟩ := Sx.V n hn rc hrec
    have x1 := R1.x
    have rlE : ∀ {H' σ'}, Ex B H' → σ'[4]? = some (some (V.ref p)) → Ev (tFld K (tVar 4) "lines") σ' H' lr := fun xx s4 => ev_fld (K := K) (ev_var s4) (xx _ _ hp) U.cR (U.nR (by decide)) rfl
    have cmp : Ev (tOp (rNeD K) (tFld K (tVar 4) "lines") (tFld K (tDGet (tFld K (tVar 0) "cells") (tVar 1)) "lines")) ((start ["self", "number", "good", "ran", "record", "name", "known"] [.ref nb, .int (n : Int), .ref gd, .ref rn]).set 4 (some (.ref p))) H1 (.bl (!decide (rc.lines = (st.cell n).src))) := by
      refine ev_is (ev_ne (K := K) (evd_of (rlE x1 rfl) (dp_ex x1 _ _ q1)) (evd_of hlv (dp_ex x1 _ _ dlv)) (src_shaped hgl) (src_shaped (G.good n hn))) ?_
      rw [eqv_src hgl (G.good n hn)]
    by_cases hlines : rc.lines = (st.cell n).src
    · have eS : standB st (visName st i n) n g0 = standGo (visName st i n) (knownAt st n) rc.asked g0 := by unfold standB; rw [hrec]; exact if_pos hlines
      rw [eS] at k
      refine s_skip (H0 := H1) (et_is (et_or (a := false) (b := false) (et_is (et_test (ev_isN (ev_var rfl))) rfl) fun _ => et_is (et_test cmp) (by simp [hlines])) rfl) (Ex.refl _) fun H2 e2 => ?_
      have R2 := R1.ex e2
      have x2 := R2.x
      have f2 := f1.trans (Fr.of (Gr.base R1.x e2))
      dsimp only
      refine s_forL (K := K) (A := B) (g := gTup K 2 (gCons (gName 5) (gCons (gName 6) gNil))) (evd_of (ev_fld (K := K) (H := B) (ev_var rfl) hp U.cR (U.nR (by decide)) rfl) q2) x2 fun H3 Hd gr => ?_
      refine ⟨fun j σ' H' => ∃ M' B' g' o5 o6, σ' = [some (.ref nb), some (.int (n : Int)), some (.ref gd), some (.ref rn), some (.ref p), o5, o6] ∧ Fr M M' B H H' B' ∧ RS K W TT st M' B' H' nb gd rn g' ∧ standGo (visName st i n) (knownAt st n) rc.asked g0 = standGo (visName st i n) (knownAt st n) (rc.asked.drop j) g' ∧ Ex Hd B', ⟨M, Hd, g0, none, none, rfl, f2.trans (Fr.of gr), R2.gr gr, rfl, Ex.refl _⟩, fun j σ' H' ⟨M', B', g', o5, o6, _, _, R', _, xx⟩ => xx.trans R'.x, ?_, ?_⟩
      · rintro j v d σ' H' hj hv ⟨M', B', g', o5, o6, rfl, f', R', hgo, xx⟩
        rw [List.getElem?_map] at hj
        obtain ⟨⟨z, kz⟩, hq, rfl⟩ := Option.map_eq_some_iff.mp hj
        have hj8 : j < rc.asked.length := (List.getElem?_eq_some_iff.mp hq).1
        have dr : rc.asked.drop j = (z, kz) :: rc.asked.drop (j + 1) := by
          rw [List.drop_eq_getElem_cons hj8]
          congr 1
          rw [List.getElem?_eq_getElem hj8] at hq
          exact Option.some.inj hq
        refine g_pair (K := K) (d := .str z) (e := encO kz) (dp_ex xx _ _ hv) R'.x fun a b da db => ?_
        have ea := dp_str da
        have eb := encO_inv db
        subst ea
        subst eb
        obtain ⟨Mn', hN', _⟩ := R'.nB
        obtain ⟨dn', c', r', kvs', ad', L'⟩ := hN'
        refine tt_op ⟨.ref nb, rfl, nb, dn', _, rfl, L'.hn, rfl, .int (n : Int), rfl, .str z, rfl, .ref gd, rfl, .ref rn, rfl, ?_⟩
        refine ⟨st, M', B', nb, gd, rn, g', n, z, rfl, R', Sx, hn, hi, fun H4 B4 M4 f4 R4 => ?_⟩
        refine k_ne (K := K) (B := B4) (d := encO (knownAt st n z)) (e := encO kz) (dt_encO _) R4.x (evb_v R4.x (ev_var rfl) (dt_encO _)) (shaped_encO _) (shaped_encO _) fun H5 e5 => ?_
        have f5 := (f'.trans f4).trans (Fr.of (Gr.base R4.x e5))
        have R5 := R4.ex e5
        rw [eqv_encO]
        by_cases hv : knownAt st n z = kz
        · rw [decide_eq_true hv]
          refine ⟨M4, B4, _, _, _, rfl, f5, R5, ?_, xx.trans f4.xd⟩
          rw [hgo, dr]
          show (if knownAt st n z = kz then _ else _) = _
          rw [if_pos hv]
        · rw [decide_eq_false hv]
          have e0 : standGo (visName st i n) (knownAt st n) rc.asked g0 = (false, visName st i n z g') := by
            rw [hgo, dr]
            show (if knownAt st n z = kz then _ else _) = _
            rw [if_neg hv]
          rw [e0] at k
          refine s_ret ev_c fun H6 e6 => ?_
          exact k H6 B4 M4 (f5.trans (Fr.of (Gr.base R5.x e6))) (R5.ex e6)
      · rintro σ' H' ⟨M', B', g', o5, o6, rfl, f', R', hgo, xx⟩
        rw [List.length_map, List.drop_eq_nil_of_le (Nat.le_refl _)] at hgo
        have hgo : standGo (visName st i n) (knownAt st n) rc.asked g0 = (true, g') := hgo
        rw [hgo] at k
        dsimp only
        refine s_ret ev_c fun H6 e6 => ?_
        exact k H6 B' M' (f'.trans (Fr.of (Gr.base R'.x e6))) (R'.ex e6)
    · have eS : standB st (visName st i n) n g0 = (false, g0) := by unfold standB; rw [hrec]; exact if_neg hlines
      rw [eS] at k
      refine s_yes (H0 := H1) (et_is (et_or (a := false) (b := true) (et_is (et_test (ev_isN (ev_var rfl))) rfl) fun _ => et_is (et_test cmp) (by simp [hlines])) rfl) (Ex.refl _) fun H2 e2 => ?_
      exact s_ret ev_c fun H3 e3 => k H3 B M (f1.trans (Fr.of (Gr.base R1.x (e2.trans e3)))) (R1.ex (e2.trans e3))
theorem sc_Notebook_told : FnScope ["self", "number", "name", "good", "ran", "other"] ["self", "number", "name", "good", "ran"] (defScope s_Notebook_told) := ⟨rfl, rfl, rfl, by decide +kernel, rfl, by decide +kernel, by decide +kernel⟩
theorem ok_Notebook_told {f : Addr} {fd : FuncData} {TT : List NdefX.NTab} {e i : Nat} {W : NbC} (U : NbT K W) (h_Notebook_last_told : HasM P w K mg base CX0 1 W.N "last_told" ["self", "number", "name"] (spNq K W R_last)) (h_Notebook_demand : HasMR P w K mg base CX0 e W.N "demand" ["self", "number", "good", "ran"] (spDem K W TT i)) (h_Notebook_setter : HasM P w K mg base CX0 4 W.N "setter" ["self", "number", "name"] (spNq K W R_setter)) (F : FnP K "told" "Notebook.told" s_Notebook_told f fd) (g : Meth K W.N "told" f) (T : Tx mg) : HasMR P w K mg base CX0 (e + 1) W.N "told" ["self", "number", "name", "good", "ran"] (spTold K W TT i) := by
  have nd := (sc_Notebook_told).nd
  refine hasMR_p F g (F.bindsN fun _ _ _ _ _ _ us hl => match us, hl with | [_, _, _, _, _], _ => rfl) sc_Notebook_told (by rintro _ _ _ _ ⟨_, _, _, _, _, _, _, _, _, rfl, _⟩; rfl) (fun cdv A outer s H vs Q E hR h => ?_)
  have hr := hR.room18
  obtain ⟨st, M, B, nb, gd, rn, g0, n, z, rfl, RSt, Sx, hn, hi, k⟩ := h
  have x := RSt.x
  have G := Sx.G
  refine ⟨_, (pss_cons (ps_set (i := 5) nd rfl (Or.inl rfl) (pe_hm (pv 0) U.cN h_Notebook_setter hr (by omega) (passA pass0) (pa_cons (pv 1) (pa_cons (pv 2) pa_nil))))
      (pss_cons (ps_if (pt_cmpR op_notN (pv 5) pe_non (nomark _)) (pss_one (ps_expr (pe_hmR (pv 0) U.cN h_Notebook_demand hR (by omega) (passA pass0) (pa_cons (pv 5) (pa_cons (pv 3) (pa_cons (pv 4) pa_nil)))))) pss_nil)
      (pss_one (ps_ret (pe_hm (pv 0) U.cN h_Notebook_last_told hr (by omega) (passA pass0) (pa_cons (pv 5) (pa_cons (pv 2) pa_nil))))))), ?_⟩
  refine s_asgB (K := K) (RSt.look (R := R_setter) G (fun _ _ _ => rfl) (ev_var rfl) (ebs_cons (evb_i x (ev_var rfl)) (ebs_cons (evb_v x (ev_var rfl) (.str z)) (ebs_nil x))) ⟨n, z, rfl, hn, rfl⟩) fun v H1 B1 g1 d1 => ?_
  rw [mix_setter] at d1
  have ei := encI_inv d1
  subst ei
  have R1 := RSt.gr g1
  have f1 : Fr M M B H H1 B1 := Fr.of g1
  dsimp only
  refine s_seqP (fun σ' H' => ∃ M' B', σ' = [some (.ref nb), some (.int (n : Int)), some (.str z), some (.ref gd), some (.ref rn), some (encIV (setterF st n z))] ∧ Fr M M' B H H' B' ∧ RS K W TT st M' B' H' nb gd rn (visName st i n z g0)) ?fin fun fin => ?_
  case fin =>
    rintro σ' H' ⟨M', B', rfl, f', R'⟩
    have x' := R'.x
    refine s_retB (K := K) (R'.look (R := R_last) G (fun _ _ _ => rfl) (ev_var rfl) (ebs_cons (evb_v x' (ev_var rfl) (dt_encI _)) (ebs_cons (evb_v x' (ev_var rfl) (.str z)) (ebs_nil x'))) ⟨setterF st n z, z, rfl, fun m hm => ?_, rfl⟩) fun v H2 B2 g2 d2 => ?_
    · have h3 := setter_mem G.nd hm
      refine ⟨h3.1, _, mix_rec_in ?_⟩
      unfold visName
      rw [hm]
      exact visit_self st (by omega)
    · have ei := encO_inv d2
      subst ei
      rw [vis_known G hi]
      exact k H2 B2 M' (f'.trans (Fr.of g2)) (R'.gr g2)
  cases hs : setterF st n z with
  | none =>
    rw [hs] at fin
    refine s_skip (H0 := H1) (et_is (et_test (ev_notN (ev_var rfl))) rfl) (Ex.refl _) fun H2 e2 => ?_
    refine fin _ _ ⟨M, B1, rfl, f1.trans (Fr.of (Gr.base R1.x e2)), ?_⟩
    unfold visName
    rw [hs]
    exact R1.ex e2
  | some m =>
    rw [hs] at fin
    have h3 := setter_mem G.nd hs
    refine s_yes (H0 := H1) (et_is (et_test (ev_notN (ev_var rfl))) rfl) (Ex.refl _) fun H2 e2 => ?_
    have R2 := R1.ex e2
    obtain ⟨Mn, hN2, _⟩ := R2.nB
    obtain ⟨dn, c, r, kvs, ad, L2⟩ := hN2
    refine ⟨.ref nb, rfl, nb, dn, _, rfl, L2.hn, rfl, .int (m : Int), rfl, .ref gd, rfl, .ref rn, rfl, ?_⟩
    refine ⟨st, M, B1, nb, gd, rn, g0, m, rfl, R2, Sx, h3.1, by omega, fun H' B' M' f' R' => ?_⟩
    refine fin _ _ ⟨M', B', rfl, (f1.trans (Fr.of (Gr.base R1.x e2))).trans f', ?_⟩
    unfold visName
    rw [hs]
    exact R'
theorem sc_Notebook_run : FnScope ["self", "number", "ran"] ["self", "number"] (defScope s_Notebook_run) := ⟨rfl, rfl, rfl, by decide +kernel, rfl, by decide +kernel, by decide +kernel⟩
theorem ok_Notebook_run {f : Addr} {fd : FuncData} {TT : List NdefX.NTab} {e : Nat} {W : NbC} (U : NbT K W) {c_Struck : Addr} {c_NoCell : Addr} (h_Notebook_demand : HasMR P w K mg base CX0 e W.N "demand" ["self", "number", "good", "ran"] (spDem K W TT 31)) (h_Notebook_look_live : HasM P w K mg base (L2.CX P w) 3 W.N "look_live" ["self", "number"] (spNq K W (R_look_live c_NoCell c_Struck))) (F : FnP K "run" "Notebook.run" s_Notebook_run f fd) (g : Meth K W.N "run" f) (T : Tx mg) : HasMR P w K mg base (L2.CX P w) (e + 1) W.N "run" ["self", "number"] (spNbT K W TT (R_run c_NoCell c_Struck)) := by
  have nd := (sc_Notebook_run).nd
  refine hasMR_x F g (F.bindsN fun _ _ _ _ _ _ us hl => match us, hl with | [_, _], _ => rfl) sc_Notebook_run (by rintro _ _ _ _ ⟨_, _, _, _, _, _, _, _, rfl, _, _, _, hd, ⟨_, rfl, _⟩, _⟩; exact congrArg (· + 1) (dpAll_len hd)) (fun cdv A outer s H vs Q E hR h => ?_)
  have hr := hR.room18
  obtain ⟨M, B, nb, st, ws, _, o, st', rfl, hN, hT, Sx, hd, ⟨d, rfl, hf⟩, k1, k2⟩ := h
  obtain ⟨v1, rfl, d1⟩ := dts1 hd
  have x := hN.x
  have G := Sx.G
  refine ⟨_, (pss_cons (ps_expr (pe_hm (pv 0) U.cN h_Notebook_look_live hr (by omega) (passA (passes_call (takes_of rfl rfl rfl rfl) fun _ _ _ _ h => h)) (pa_cons (pv 1) pa_nil)))
      (pss_cons (ps_set (i := 2) nd rfl (Or.inl rfl) (pe_lst pa_nil))
      (pss_cons (ps_expr (pe_hmR (pv 0) U.cN h_Notebook_demand hR (by omega) (passA pass0) (pa_cons (pv 1) (pa_cons pe_dnewK (pa_cons (pv 2) pa_nil)))))
      (pss_one (ps_ret (pv 2)))))), ?_⟩
  have hl : ∃ ol, R_look_live c_NoCell c_Struck st [d] ol ∧ (∀ c, ol = .inr c → o = .inr c) ∧ (∀ z, ol = .inl z → ∃ n ∈ st.row, d = .int ((n : Nat) : Int) ∧ o = .inl (.list ((ranOf st (visit st 31 n [])).map fun m : Nat => PyData.int (m : Int))) ∧ st' = mix st (visit st 31 n [])) := by
    rcases hf with ⟨h, ho, _⟩ | ⟨n, hn, rfl, ⟨h, ho, _⟩ | ⟨h, ho, hs⟩⟩
    · exact ⟨.inr c_NoCell, ⟨d, rfl, .inl ⟨h, rfl⟩⟩, fun c z => by cases z; exact ho, fun z q => by cases q⟩
    · exact ⟨.inr c_Struck, ⟨_, rfl, .inr ⟨n, hn, rfl, .inl ⟨h, rfl⟩⟩⟩, fun c z => by cases z; exact ho, fun z q => by cases q⟩
    · exact ⟨.inl .none, ⟨_, rfl, .inr ⟨n, hn, rfl, .inr ⟨h, rfl⟩⟩⟩, fun c z => (nomatch z), fun z q => ⟨n, hn, rfl, ho, hs⟩⟩
  obtain ⟨ol, hRl, hl1, hl2⟩ := hl
  refine s_q (K := K) (T := W) (st := st) (fun _ _ _ => rfl) (ev_var rfl) hN G (ebs_cons ((evd_var d1).toB x) (ebs_nil x)) hRl (fun z e H1 e1 => ?_) fun cc e H1 e1 => k2 _ (hl1 cc e) H1 e1
  obtain ⟨n, hn, rfl, rfl, rfl⟩ := hl2 z e
  have ei := dp_int d1
  subst ei
  have hN1 := hN.ex e1
  have hT1 := hT.ex x e1
  dsimp only
  refine s_lnew fun rn hrn => ?_
  have e2 : Ex H1 (upd H1 rn (.lst [])) := Ex.new hrn
  have hr2 : upd H1 rn (.lst []) rn = some (.lst []) := upd_same
  generalize upd H1 rn (.lst []) = H2 at *
  have hN2 := hN1.ex e2
  obtain ⟨dn, c, r, kvs, ad, L2⟩ := hN2
  dsimp only
  refine ⟨.ref nb, rfl, nb, dn, _, rfl, L2.hn, rfl, .int (n : Int), rfl, fun gd hgd => ⟨.ref rn, rfl, ?_⟩⟩
  have e3 : Ex H2 (upd H2 gd (.dK [])) := Ex.new hgd
  have hg3 : upd H2 gd (.dK []) gd = some (.dK []) := upd_same
  generalize upd H2 gd (.dK []) = H3 at *
  have X3 := e2.trans e3
  have hN3 := hN1.ex X3
  have hT3 := hT1.ex hN1.x X3
  have hgd1 : H1 gd = none := fresh_back e2 hgd
  have nM : ∀ p, H1 p = none → ¬ M p ∧ B p = none := fun p h => ⟨fun z => (hN1.m p z).2 h, fresh_back hN1.x h⟩
  have R3 := RS.start hN3 hT3 hg3 (e3 _ _ hr2) (nM gd hgd1) (nM rn hrn)
  have hlt : st.row.idxOf n < 31 := by
    have h1 := List.idxOf_lt_length_iff.mpr hn
    have h2 := G.len
    omega
  refine ⟨st, _, B, nb, gd, rn, [], n, rfl, R3, Sx, hn, hlt, fun H4 B4 M4 f4 R4 => ?_⟩
  dsimp only
  refine s_ret (ev_var rfl) fun H5 e5 => ?_
  have R5 := R4.ex e5
  have f5 := f4.trans (Fr.of (Gr.base R4.x e5))
  obtain ⟨M6, B6, f6, hN6, hT6, d6⟩ := R5.stop f5 hN3 hT3 hgd1 hrn X3 fun a ha => (hN1.m a ha).2
  exact k1 _ rfl _ H5 B6 M6 ((Fr.of (Gr.base x e1)).tabs.trans f6) hN6 hT6 d6
theorem sc_Notebook_run_all : FnScope ["self", "ran", "good", "number"] ["self"] (defScope s_Notebook_run_all) := ⟨rfl, rfl, rfl, by decide +kernel, rfl, by decide +kernel, by decide +kernel⟩
theorem ok_Notebook_run_all {f : Addr} {fd : FuncData} {TT : List NdefX.NTab} {e : Nat} {W : NbC} (U : NbT K W) (h_Notebook_demand : HasMR P w K mg base CX0 e W.N "demand" ["self", "number", "good", "ran"] (spDem K W TT 31)) (F : FnP K "run_all" "Notebook.run_all" s_Notebook_run_all f fd) (g : Meth K W.N "run_all" f) (T : Tx mg) : HasMR P w K mg base CX0 (e + 1) W.N "run_all" ["self"] (spNbT K W TT R_run_all) := by
  have nd := (sc_Notebook_run_all).nd
  refine hasMR_p F g (F.bindsN fun _ _ _ _ _ _ us hl => match us, hl with | [_], _ => rfl) sc_Notebook_run_all (by rintro _ _ _ _ ⟨_, _, _, _, _, _, _, _, rfl, _, _, _, hd, ⟨rfl, _⟩, _⟩; exact congrArg (· + 1) (dpAll_len hd)) (fun cdv A outer s H vs Q E hR h => ?_)
  have hr := hR.room18
  obtain ⟨M, B, nb, st, ws, _, o, st', rfl, hN, hT, Sx, hd, ⟨rfl, rfl, rfl⟩, k1, k2⟩ := h
  cases hd
  have x := hN.x
  have G := Sx.G
  refine ⟨_, (pss_cons (ps_set (i := 1) nd rfl (Or.inl rfl) (pe_lst pa_nil))
      (pss_cons (ps_set (i := 2) nd rfl (Or.inl rfl) pe_dnewK)
      (pss_cons (ps_for PassesOwn.never rfl (kSeq (K := K) rfl (kFld (K := K) rfl (pv 0))) (pg_name (i := 3) nd rfl (Or.inl rfl)) (pss_one (ps_if (pt_not (kTruth (K := K) rfl (kFld (K := K) rfl (pe_dget (Nat.lt_of_le_of_lt (Nat.add_le_add_left (by decide) _) hr.units) (kFld (K := K) rfl (pv 0)) (pv 3) (fun _ _ => rfl))))) (pss_one (ps_expr (pe_hmR (pv 0) U.cN h_Notebook_demand hR (by omega) (passA pass0) (pa_cons (pv 3) (pa_cons (pv 2) (pa_cons (pv 1) pa_nil)))))) pss_nil)))
      (pss_one (ps_ret (pv 1)))))), ?_⟩
  refine s_lnew fun rn hrn => ?_
  have e2 : Ex H (upd H rn (.lst [])) := Ex.new hrn
  have hr2 : upd H rn (.lst []) rn = some (.lst []) := upd_same
  generalize upd H rn (.lst []) = H2 at *
  dsimp only
  refine s_dnew fun gd hgd => ?_
  have e3 : Ex H2 (upd H2 gd (.dK [])) := Ex.new hgd
  have hg3 : upd H2 gd (.dK []) gd = some (.dK []) := upd_same
  generalize upd H2 gd (.dK []) = H3 at *
  have X3 := e2.trans e3
  have hN3 := hN.ex X3
  have hT3 := hT.ex x X3
  have hgd1 : H gd = none := fresh_back e2 hgd
  have nM : ∀ p, H p = none → ¬ M p ∧ B p = none := fun p h => ⟨fun z => (hN.m p z).2 h, fresh_back x h⟩
  have R3 := RS.start hN3 hT3 hg3 (e3 _ _ hr2) (nM gd hgd1) (nM rn hrn)
  have nMs := Ms.not (TT := TT) hN hgd1 hrn
  obtain ⟨dn, c, r, kvs, ad, L3⟩ := hN3
  dsimp only
  refine s_forM (K := K) (L3.rowE U (ev_var rfl)) L3.hr (fun i σ' H' => (∃ o2, σ' = [some (.ref nb), some (.ref rn), some (.ref gd), o2]) ∧ ∃ M' B', Fr (Ms TT M nb gd rn) M' B H3 H' B' ∧ RS K W TT st M' B' H' nb gd rn (visitAll st (st.row.take i) [])) ?_ ?_ ?_ ?_
  · intro H4 e4
    exact ⟨⟨none, rfl⟩, _, B, Fr.of (Gr.base R3.x e4), R3.ex e4⟩
  · rintro i σ' H' ⟨_, M', B', f, R⟩
    exact R.row_at L3 (by rw [L3.hn]; exact f.fr _ _ L3.hn nMs)
  · rintro i v σ' H' hi ⟨⟨o2, rfl⟩, M', B', f, R⟩
    rw [List.getElem?_map] at hi
    obtain ⟨n, hj, rfl⟩ := Option.map_eq_some_iff.mp hi
    have hn := List.mem_of_getElem? hj
    have htk : st.row.take (i + 1) = st.row.take i ++ [n] := by rw [List.take_add_one, hj]; rfl
    obtain ⟨Mn, ⟨dn4, c4, r4, kvs4, ad4, L4⟩, _⟩ := R.nB
    have hn4 : n ∈ (mix st (visitAll st (st.row.take i) [])).row := hn
    refine s_ifN (H0 := H') (b := !(st.cell n).struck) (et_is (et_not (et_b (L4.struckE U hn4 (L4.atE U (ev_var rfl) (ev_var rfl) hn4)))) (by rw [mix_struck])) (Ex.refl _) (fun hb H4 e4 => ?_) fun hb H4 e4 => ?_
    · have hst : (st.cell n).struck = false := by simpa using hb
      have hlt : st.row.idxOf n < 31 := by
        have h1 := List.idxOf_lt_length_iff.mpr hn
        have h2 := G.len
        omega
      refine ⟨.ref nb, rfl, nb, dn4, _, rfl, e4 _ _ L4.hn, rfl, .int (n : Int), rfl, .ref gd, rfl, .ref rn, rfl, ?_⟩
      refine ⟨st, _, B', nb, gd, rn, _, n, rfl, R.ex e4, Sx, hn, hlt, fun H6 B6 M6 f6 R6 => ⟨⟨_, rfl⟩, M6, B6, (f.trans (Fr.of (Gr.base R.x e4))).trans f6, ?_⟩⟩
      rw [htk, visitAll_app, hst]
      exact R6
    · have hst : (st.cell n).struck = true := by simpa using hb
      refine ⟨⟨_, rfl⟩, M', B', f.trans (Fr.of (Gr.base R.x e4)), ?_⟩
      rw [htk, visitAll_app, hst]
      exact R.ex e4
  · rintro σ' H' ⟨⟨o2, rfl⟩, M', B', f, R⟩
    dsimp only
    rw [List.length_map, List.take_length] at R
    refine s_ret (ev_var rfl) fun H5 e5 => ?_
    have R5 := R.ex e5
    have f5 := f.trans (Fr.of (Gr.base R.x e5))
    obtain ⟨M6, B6, f6, hN6, hT6, d6⟩ := R5.stop f5 L3.toNB hT3 hgd1 hrn X3 fun a ha => (hN.m a ha).2
    exact k1 _ rfl _ H5 B6 M6 f6 hN6 hT6 d6
theorem sc_Notebook_view : FnScope ["self", "number", "record"] ["self", "number"] (defScope s_Notebook_view) := ⟨rfl, rfl, rfl, by decide +kernel, rfl, by decide +kernel, by decide +kernel⟩
theorem ok_Notebook_view {f : Addr} {fd : FuncData}  {W : NbC} (U : NbT K W) {c_NoCell : Addr} (h_Notebook_look_cell : HasM P w K mg base (L2.CX P w) 2 W.N "look_cell" ["self", "number"] (spNq K W (R_look_cell c_NoCell))) (F : FnP K "view" "Notebook.view" s_Notebook_view f fd) (g : Meth K W.N "view" f) (T : Tx mg) : HasM P w K mg base (L2.CX P w) 3 W.N "view" ["self", "number"] (spNq K W (R_view c_NoCell)) := by
  have nd := (sc_Notebook_view).nd
  refine hasM_x F g (F.bindsN fun _ _ _ _ _ _ us hl => match us, hl with | [_, _], _ => rfl) sc_Notebook_view (by rintro _ _ _ _ ⟨_, _, _, _, _, _, _, rfl, _, _, hd, ⟨_, rfl, _⟩, _⟩; exact congrArg (· + 1) (dpAll_len hd)) (fun cdv A outer s H vs Q E hr h => ?_)
  obtain ⟨M, B, nb, st, ws, _, o, rfl, hN, hG, hd, ⟨d, rfl, hf⟩, k1, k2⟩ := h
  obtain ⟨v1, rfl, d1⟩ := dts1 hd
  obtain ⟨dn, c, r, kvs, ad, L⟩ := hN
  refine ⟨_, (pss_cons (ps_expr (pe_hm (pv 0) U.cN h_Notebook_look_cell hr (by omega) (passA (passes_call (takes_of rfl rfl rfl rfl) fun _ _ _ _ h => h)) (pa_cons (pv 1) pa_nil)))
      (pss_cons (ps_set (i := 2) nd rfl (Or.inl rfl) (kFld (K := K) rfl (pe_dget (Nat.lt_of_le_of_lt (Nat.add_le_add_left (by decide) _) hr.units) (kFld (K := K) rfl (pv 0)) (pv 1) (fun _ _ => rfl))))
      (pss_one (ps_ret (pe_ifExp (pt_cmpR op_isN (pv 2) pe_non (nomark _)) pe_non (pe_tup (pa_cons (pe_callTy (kLst (K := K) rfl) rfl (T.free (by decide)) boot_list (pa_cons (kFld (K := K) rfl (pv 2)) pa_nil)) (pa_cons (kFld (K := K) rfl (pv 2)) pa_nil)))))))), ?_⟩
  refine s_q (K := K) (T := W) (st := st) (fun _ _ _ => rfl) (ev_var rfl) L.toNB hG (ebs_cons ((evd_var d1).toB L.x) (ebs_nil L.x)) ⟨d, rfl, rfl⟩ (fun z e H1 e1 => ?_) fun cc e H1 e1 => ?_
  rotate_left
  · rcases hf with ⟨h, ho⟩ | ⟨n, hn, rfl, ho⟩
    · rw [h] at e
      cases e
      exact k2 _ ho H1 e1
    · rw [cell_int hn] at e
      cases e
  rcases hf with ⟨h, ho⟩ | ⟨n, hn, rfl, rfl⟩
  · rw [h] at e
    cases e
  have ei := dp_int d1
  subst ei
  have L1 := L.ex e1
  dsimp only
  obtain ⟨rv, h1, h2⟩ := L1.recE U hn (L1.atE U (ta := tVar 0) (ty := tVar 1) (σ := start ["self", "number", "record"] [.ref nb, .int (n : Int)]) (ev_var rfl) (ev_var rfl) hn)
  refine s_asg h1 fun H2 e2 => ?_
  have L2 := L1.ex e2
  have x2 := L2.x
  dsimp only
  cases hrec : (st.cell n).recd with
  | none =>
    rw [hrec] at h2
    have h2 : rv = .non := h2
    subst h2
    have eV : viewD st n = .none := by unfold viewD; rw [hrec]
    rw [eV] at k1
    refine x_if (H0 := H2) (b := true) (et_is (et_test (ev_isN (ev_var rfl))) rfl) (Ex.refl _) (fun hb H5 e5 => ?_) fun hb => nomatch hb
    exact k1 _ rfl _ H5 B (Gr.base L.x ((e1.trans e2).trans e5)) .non
  | some rc =>
    rw [hrec] at h2
    obtain ⟨p, dx, lr, av, sv, dv, wv, rfl, hp, q1, q2, q3, q4, q5⟩ := h2
    have eV : viewD st n = .tuple [.list (rc.shown.map PyData.int), encWhy rc.why] := by unfold viewD; rw [hrec]
    rw [eV] at k1
    refine x_if (H0 := H2) (b := false) (et_is (et_test (ev_isN (ev_var rfl))) rfl) (Ex.refl _) (fun hb => nomatch hb) fun hb H5 e5 => ?_
    have x5 := x2.trans e5
    have pe := x5 _ _ hp
    obtain ⟨sp, svs, rfl, hs, hall⟩ := dp_lst q3
    refine evb_tup (K := K) (B := B) (ebs_cons (evb_copy x5 (ev_fld (K := K) (ev_var rfl) pe U.cR (U.nR (by decide)) rfl) (x5 _ _ hs) hall) (ebs_cons (evb_v x5 (ev_fld (K := K) (ev_var rfl) pe U.cR (U.nR (by decide)) rfl) q5) (ebs_nil x5))) (by show 2 ≤ 100000; decide) H5 (Ex.refl _) _ fun v H6 B6 g6 d6 => ?_
    exact k1 _ rfl v H6 B6 ((Gr.base L.x ((e1.trans e2).trans e5)).seq g6) d6
theorem sc_Notebook_leans : FnScope ["self", "number", "some", "name", "one"] ["self", "number"] (defScope s_Notebook_leans) := ⟨rfl, rfl, rfl, by decide +kernel, rfl, by decide +kernel, by decide +kernel⟩
theorem ok_Notebook_leans {f : Addr} {fd : FuncData}  {W : NbC} (U : NbT K W) {c_Struck : Addr} {c_NoCell : Addr} (h_reads_of : Has P w K mg base CX0 9 "reads_of" ["source"] (spD K F_reads_of)) (h_Notebook_setter : HasM P w K mg base CX0 4 W.N "setter" ["self", "number", "name"] (spNq K W R_setter)) (h_Notebook_look_live : HasM P w K mg base (L2.CX P w) 3 W.N "look_live" ["self", "number"] (spNq K W (R_look_live c_NoCell c_Struck))) (F : FnP K "leans" "Notebook.leans" s_Notebook_leans f fd) (g : Meth K W.N "leans" f) (T : Tx mg) : HasM P w K mg base (L2.CX P w) 12 W.N "leans" ["self", "number"] (spNq K W (R_leans c_NoCell c_Struck)) := by
  have nd := (sc_Notebook_leans).nd
  refine hasM_x F g (F.bindsN fun _ _ _ _ _ _ us hl => match us, hl with | [_, _], _ => rfl) sc_Notebook_leans (by rintro _ _ _ _ ⟨_, _, _, _, _, _, _, rfl, _, _, hd, ⟨_, rfl, _⟩, _⟩; exact congrArg (· + 1) (dpAll_len hd)) (fun cdv A outer s H vs Q E hr h => ?_)
  obtain ⟨M, B, nb, st, ws, _, o, rfl, hN, hG, hd, ⟨d, rfl, hf⟩, k1, k2⟩ := h
  obtain ⟨v1, rfl, d1⟩ := dts1 hd
  obtain ⟨dn, c, r, kvs, ad, L⟩ := hN
  refine ⟨_, (pss_cons (ps_expr (pe_hm (pv 0) U.cN h_Notebook_look_live hr (by omega) (passA (passes_call (takes_of rfl rfl rfl rfl) fun _ _ _ _ h => h)) (pa_cons (pv 1) pa_nil)))
      (pss_cons (ps_setLc (i := 2) (own := [("name", 3)]) rfl nd rfl rfl (sw_true rfl rfl rfl (by decide +kernel)) (kSeq (K := K) rfl (pe_has h_reads_of hr (by omega) rfl pass0 (pa_cons (kFld (K := K) rfl (pe_dget (Nat.lt_of_le_of_lt (Nat.add_le_add_left (by decide) _) hr.units) (kFld (K := K) rfl (pv 0)) (pv 1) (fun _ _ => rfl))) pa_nil))) (blkOk_by (N := ["self", "number", "some", "name", "one"]) (sc := defScope s_Notebook_leans) (own := [("name", 3)]) (by decide +kernel)) (fun _ _ _ _ _ => (pg_name (i := 3) nd rfl (Or.inl rfl))) (fun _ _ _ _ _ => pts_nil) (fun _ _ _ _ _ => (pe_hm (pv 0) U.cN h_Notebook_setter hr (by omega) (passA pass0) (pa_cons (pv 1) (pa_cons (pv 3) pa_nil)))))
      (pss_one (ps_ret (pe_callB (kSort (w := w) rfl rfl) rfl (T.free (by decide)) boot_sorted (pa_cons (pe_callTy (kSet (K := K) (w := w) rfl rfl rfl) rfl (T.free (by decide)) boot_set (pa_cons (pe_lc (own := [("one", 4)]) rfl nd (kSeq (K := K) rfl (pv 2)) (blkOk_by (N := ["self", "number", "some", "name", "one"]) (sc := defScope s_Notebook_leans) (own := [("one", 4)]) (by decide +kernel)) (fun _ _ _ _ _ => (pg_name (i := 4) nd rfl (Or.inl rfl))) (fun _ _ _ _ _ => (pts_one (pt_cmpR op_notN (pv 4) pe_non (nomark _)))) (fun _ _ _ _ _ => (pv 4))) pa_nil)) pa_nil)))))), ?_⟩
  have hl : ∃ ol, R_look_live c_NoCell c_Struck st [d] ol ∧ (∀ c, ol = .inr c → o = .inr c) ∧ (∀ z, ol = .inl z → ∃ n ∈ st.row, d = .int ((n : Nat) : Int) ∧ (readsOf (st.cell n).src).length < 60 ∧ o = .inl (.list ((leansI st n).map PyData.int))) := by
    rcases hf with ⟨h, ho⟩ | ⟨n, hn, rfl, ⟨h, ho⟩ | ⟨h, h60, ho⟩⟩
    · exact ⟨.inr c_NoCell, ⟨d, rfl, .inl ⟨h, rfl⟩⟩, fun c z => by cases z; exact ho, fun z q => by cases q⟩
    · exact ⟨.inr c_Struck, ⟨_, rfl, .inr ⟨n, hn, rfl, .inl ⟨h, rfl⟩⟩⟩, fun c z => by cases z; exact ho, fun z q => by cases q⟩
    · exact ⟨.inl .none, ⟨_, rfl, .inr ⟨n, hn, rfl, .inr ⟨h, rfl⟩⟩⟩, fun c z => (nomatch z), fun z q => ⟨n, hn, rfl, h60, ho⟩⟩
  obtain ⟨ol, hRl, hl1, hl2⟩ := hl
  refine s_q (K := K) (T := W) (st := st) (fun _ _ _ => rfl) (ev_var rfl) L.toNB hG (ebs_cons ((evd_var d1).toB L.x) (ebs_nil L.x)) hRl (fun z e H1 e1 => ?_) fun cc e H1 e1 => k2 _ (hl1 cc e) H1 e1
  obtain ⟨n, hn, rfl, h60, rfl⟩ := hl2 z e
  have ei := dp_int d1
  subst ei
  have L1 := L.ex e1
  dsimp only
  have at1 : Ev (tDGet (tFld K (tVar 0) "cells") (tVar 1)) (start ["self", "number", "some", "name", "one"] [.ref nb, .int (n : Int)]) H1 (.ref (ad n)) := L1.atE U (ev_var rfl) (ev_var rfl) hn
  obtain ⟨lv, hlv, dlv⟩ := L1.linesE U hn at1
  have hg := hG.good n hn
  refine s_asgB (K := K) (B := B) (evb_lcL (K := K) (ds := (readsOf (st.cell n).src).map PyData.str) (fun _ => true) (fun d => encI (setterF st n (strOf d))) (evb_call (ebs_cons (evb_v L1.x hlv dlv) (ebs_nil L1.x)) ⟨_, rfl, hg, rfl⟩) (by rw [List.length_map]; omega) (fun _ => rfl) (fun _ _ _ _ _ _ _ => et_yes) fun v d B2 H2 g2 hd _ dv => ?_) fun v H2 B2 g2 d2 => ?_
  · obtain ⟨x, hx, rfl⟩ := List.mem_map.mp hd
    have ei := dp_str dv
    subst ei
    have x2 := g2.d2
    exact evb_q (K := K) (T := W) (st := st) (R := R_setter) (fun _ _ _ => rfl) (ev_var rfl) (L1.toNB.gr g2) hG (ebs_cons (evb_i x2 (ev_var rfl)) (ebs_cons (evb_v x2 (ev_var rfl) (.str x)) (ebs_nil x2))) ⟨n, x, rfl, hn, rfl⟩
  have x2 := g2.d2
  dsimp only
  refine s_retB (K := K) (B := B2) (evb_sortI (xs := ((readsOf (st.cell n).src).filterMap (setterF st n)).map fun m : Nat => (m : Int)) (evb_is (evb_lcL (K := K) notN id (evb_v x2 (ev_var rfl) d2) (by rw [List.length_map]; exact Nat.le_trans (List.length_filter_le _ _) (by rw [List.length_map]; omega)) (fun _ => rfl) (fun v d B3 H3 g3 hd dv => ?_) fun v d B3 H3 g3 hd _ dv => evb_v g3.d2 (ev_var rfl) dv) (by rw [List.map_id, leans_map])) ?_) fun v H3 B3 g3 d3 => ?_
  · obtain ⟨x, hx, rfl⟩ := List.mem_map.mp hd
    have ei := encI_inv dv
    subst ei
    refine et_is (et_test (ev_notN (ev_var rfl))) ?_
    cases setterF st n (strOf x) <;> rfl
  · rw [List.length_map]
    exact Nat.lt_of_le_of_lt (List.length_filterMap_le _ _) h60
  · exact k1 _ rfl v H3 B3 (((Gr.base L.x e1).seq g2).seq g3) d3
theorem sc_live : FnScope ["notebook", "number"] ["notebook"] (defScope s_live) := ⟨rfl, rfl, rfl, by decide +kernel, rfl, by decide +kernel, by decide +kernel⟩
theorem ok_live {f : Addr} {fd : FuncData}  (F : FnP K "live" "live" s_live f fd) (g : mg "live" = some (.ref f)) (T : Tx mg) {W : NbC} (U : NbT K W) : Has P w K mg base CX0 2 "live" ["notebook"] (spNq K W R_live) := by
  have nd := (sc_live).nd
  refine has_p F g (F.bindsN fun _ _ _ _ _ _ us hl => match us, hl with | [_], _ => rfl) sc_live (by rintro _ _ _ _ ⟨_, _, _, _, _, _, _, rfl, _, _, hd, ⟨rfl, _⟩, _⟩; exact congrArg (· + 1) (dpAll_len hd)) (fun cdv A outer s H vs Q E hr h => ?_)
  obtain ⟨M, B, nb, st, ws, _, o, rfl, hN, hG, hd, ⟨rfl, rfl⟩, k1, k2⟩ := h
  cases hd
  obtain ⟨dn, c, r, kvs, ad, L⟩ := hN
  have l30 := hG.len
  refine ⟨_, (pss_one (ps_ret (pe_lc (own := [("number", 1)]) rfl nd (kSeq (K := K) rfl (kFld (K := K) rfl (pv 0))) (blkOk_by (N := ["notebook", "number"]) (sc := defScope s_live) (own := [("number", 1)]) (by decide +kernel)) (fun _ _ _ _ _ => (pg_name (i := 1) nd rfl (Or.inl rfl))) (fun _ _ _ _ _ => (pts_one (pt_not (kTruth (K := K) rfl (kFld (K := K) rfl (pe_dget (Nat.lt_of_le_of_lt (Nat.add_le_add_left (by decide) _) hr.units) (kFld (K := K) rfl (pv 0)) (pv 1) (fun _ _ => rfl))))))) (fun _ _ _ _ _ => (pv 1))))), ?_⟩
  refine s_retB (K := K) (B := B) (evb_is (evb_lcM (K := K) (fun d => !(st.cell (natOf d)).struck) id L.x (L.rowE U (ev_var rfl)) L.hr (dt_nats st.row) (by rw [List.length_map]; omega) (fun _ => rfl) (fun v d H1 e1 hd dv => ?_) fun v d H1 e1 hd _ dv => evb_v (L.x.trans e1) (ev_var rfl) dv) (congrArg PyData.list (natL_filter (fun n => !(st.cell n).struck) st.row))) (k1 _ rfl)
  obtain ⟨n, hn, rfl⟩ := List.mem_map.mp hd
  have ei := dp_int dv
  subst ei
  have L1 := L.ex e1
  exact et_is (et_not (et_b (L1.struckE U hn (L1.atE U (ev_var rfl) (ev_var rfl) hn)))) (by show _ = !(st.cell (n : Int).toNat).struck; rw [Int.toNat_natCast])
theorem sc_needed : FnScope ["notebook", "number", "found", "one", "other"] ["notebook", "number"] (defScope s_needed) := ⟨rfl, rfl, rfl, by decide +kernel, rfl, by decide +kernel, by decide +kernel⟩
theorem ok_needed {f : Addr} {fd : FuncData}  (F : FnP K "needed" "needed" s_needed f fd) (g : mg "needed" = some (.ref f)) (T : Tx mg) {W : NbC} (U : NbT K W) {c_Struck : Addr} {c_NoCell : Addr} (h_live : Has P w K mg base CX0 2 "live" ["notebook"] (spNq K W R_live)) (h_Notebook_leans : HasM P w K mg base (L2.CX P w) 12 W.N "leans" ["self", "number"] (spNq K W (R_leans c_NoCell c_Struck))) (h_Notebook_look_live : HasM P w K mg base (L2.CX P w) 3 W.N "look_live" ["self", "number"] (spNq K W (R_look_live c_NoCell c_Struck))) : Has P w K mg base (L2.CX P w) 13 "needed" ["notebook", "number"] (spNq K W (R_needed c_NoCell c_Struck)) := by
  have nd := (sc_needed).nd
  refine has_x F g (F.bindsN fun _ _ _ _ _ _ us hl => match us, hl with | [_, _], _ => rfl) sc_needed (by rintro _ _ _ _ ⟨_, _, _, _, _, _, _, rfl, _, _, hd, ⟨_, rfl, _⟩, _⟩; exact congrArg (· + 1) (dpAll_len hd)) (fun cdv A outer s H vs Q E hr h => ?_)
  obtain ⟨M, B, nb, st, ws, _, o, rfl, hN, hG, hd, ⟨d, rfl, hf⟩, k1, k2⟩ := h
  obtain ⟨v1, rfl, d1⟩ := dts1 hd
  obtain ⟨dn, c, r, kvs, ad, L⟩ := hN
  have l30 := hG.len
  refine ⟨_, (pss_cons (ps_expr (pe_hm (pv 0) U.cN h_Notebook_look_live hr (by omega) (passA (passes_call (takes_of rfl rfl rfl rfl) fun _ _ _ _ h => h)) (pa_cons (pv 1) pa_nil)))
      (pss_cons (ps_set (i := 2) nd rfl (Or.inr rfl) (pe_lst (pa_cons (pv 1) pa_nil)))
      (pss_cons (ps_for (passes_of rfl) rfl (kSeq (K := K) rfl (pe_revL (pe_has h_live hr (by omega) rfl pass0 (pa_cons (pv 0) pa_nil)))) (pg_name (i := 3) nd rfl (Or.inl rfl)) (pss_one (ps_if (pt_cmpR (kIn (K := K) rfl) (pv 3) (pv 2) rfl) (pss_one (ps_expr (pe_bm PySem.F.plainAttrs_list PySem.F.slot_list_extend PySem.F.type_list_extend mt_extend (pv 2) (pa_cons (pe_lc (own := [("other", 4)]) rfl nd (kSeq (K := K) rfl (pe_hm (pv 0) U.cN h_Notebook_leans hr (by omega) (passA (passes_call (takes_of rfl rfl rfl rfl) fun _ _ _ _ h => h)) (pa_cons (pv 3) pa_nil))) (blkOk_by (N := ["notebook", "number", "found", "one", "other"]) (sc := defScope s_needed) (own := [("other", 4)]) (by decide +kernel)) (fun _ _ _ _ _ => (pg_name (i := 4) nd rfl (Or.inl rfl))) (fun _ _ _ _ _ => (pts_one (pt_cmpR (kNotIn (K := K) rfl) (pv 4) (pv 2) rfl))) (fun _ _ _ _ _ => (pv 4))) pa_nil)))) pss_nil)))
      (pss_one (ps_ret (pe_lc (own := [("one", 3)]) rfl nd (kSeq (K := K) rfl (kFld (K := K) rfl (pv 0))) (blkOk_by (N := ["notebook", "number", "found", "one", "other"]) (sc := defScope s_needed) (own := [("one", 3)]) (by decide +kernel)) (fun _ _ _ _ _ => (pg_name (i := 3) nd rfl (Or.inl rfl))) (fun _ _ _ _ _ => (pts_one (pt_cmpR (kIn (K := K) rfl) (pv 3) (pv 2) rfl))) (fun _ _ _ _ _ => (pv 3)))))))), ?_⟩
  obtain ⟨few, ol, hRl, hl1, hl2⟩ := liveX_look (val := fun st n => natL (neededL st n)) ⟨d, rfl, hf⟩
  refine s_q (K := K) (T := W) (st := st) (fun _ _ _ => rfl) (ev_var rfl) L.toNB hG (ebs_cons ((evd_var d1).toB L.x) (ebs_nil L.x)) hRl (fun z e H1 e1 => ?_) fun cc e H1 e1 => k2 _ (hl1 cc e) H1 e1
  obtain ⟨n, hn, rfl, hst, rfl⟩ := hl2 z e
  have ei := dp_int d1
  subst ei
  have L1 := L.ex e1
  dsimp only
  refine s_asgL (i := 2) (el_lst (ea_cons (ev_var rfl) ea_nil) (by simp)) fun p H2 hp e2 h2 => ?_
  dsimp only
  have L2 := L1.ex e2
  have pb : B p = none := fresh_back L1.x hp
  have hlive : ∀ m ∈ liveL st, m ∈ st.row ∧ (st.cell m).struck = false := fun m hm => by
    have := List.mem_filter.mp hm
    exact ⟨this.1, by simpa using this.2⟩
  have livelen : (liveL st).length ≤ 30 := Nat.le_trans (List.length_filter_le _ _) l30
  refine s_forB (K := K) (B := B) (evb_revL (evb_fq (K := K) (T := W) (st := st) (R := R_live) (ev_var rfl) L2.toNB hG (ebs_nil L2.x) ⟨rfl, rfl⟩)) fun H3 Hd gr => ?_
  have hdp : Hd p = none := gr.fr p pb (by rw [h2]; exact fun z => nomatch z)
  refine ⟨fun i σ' H' => ∃ o3 o4 f, σ' = [some (.ref nb), some (.int (n : Int)), some (.ref p), o3, o4] ∧ Ex Hd H' ∧ Ex H1 H' ∧ H' p = some (.lst (f.map fun m : Nat => V.int (m : Int))) ∧ f = ((liveL st).reverse.take i).foldl (needGo st) [n] ∧ f.length ≤ 1 + 60 * i, ⟨none, none, [n], rfl, gr.d2, e2.trans gr.ex, gr.ex _ _ h2, rfl, by simp⟩, fun i σ' H' ⟨_, _, _, _, z, _⟩ => z, ?_, ?_⟩
  · rintro i v d σ' H' hi hv ⟨o3, o4, f, rfl, xd, x1, p3, hfe, hfl⟩
    rw [← List.map_reverse, List.getElem?_map] at hi
    obtain ⟨m, hj, rfl⟩ := Option.map_eq_some_iff.mp hi
    have hm := hlive m (List.mem_reverse.mp (List.mem_of_getElem? hj))
    have hi30 : i < 30 := by
      have := (List.getElem?_eq_some_iff.mp hj).1
      rw [List.length_reverse] at this
      omega
    have ei := dp_int hv
    subst ei
    have htk : ((liveL st).reverse.take (i + 1)).foldl (needGo st) [n] = needGo st f m := by
      rw [List.take_add_one, hj, List.foldl_append, ← hfe]
      rfl
    have L4 := L1.ex x1
    have dp3 : ∀ {H5 : Hp}, Ex H' H5 → Dt K H5 (.ref p) (natL f) := fun e5 => .lst (e5 _ _ p3) (dt_nats _)
    refine s_ifN (H0 := H') (b := decide (m ∈ f)) (et_is (et_test (ev_inL (K := K) (neg := false) (evd_var (.int (m : Int))) (evd_var (dp3 (Ex.refl _))) rfl (flat_nats f))) (by rw [inD_nats]; rfl)) (Ex.refl _) (fun hb H5 e5 => ?_) fun hb H5 e5 => ?_
    · have hb := of_decide_eq_true hb
      have L5 := L4.ex e5
      have few5 := few m hm.1
      have lenl := leansL_len st m
      refine s_extB (K := K) (B := B) (ds := ((leansL st m).filter fun z => !decide (z ∈ f)).map fun z : Nat => PyData.int (z : Int)) (e5 _ _ p3) (ev_var rfl) (evb_is (evb_lcL (K := K) (fun d => !decide (natOf d ∈ f)) id (evb_is (evb_q (K := K) (T := W) (st := st) (R := R_leans c_NoCell c_Struck) (fun _ _ _ => rfl) (ev_var rfl) L5.toNB hG (ebs_cons (evb_i L5.x (ev_var rfl)) (ebs_nil L5.x)) ⟨_, rfl, .inr ⟨m, hm.1, rfl, .inr ⟨hm.2, few5, rfl⟩⟩⟩) (leans_natL st m)) (by rw [List.length_map]; omega) (fun _ => rfl) (fun v d B6 H6 g6 hd dv => ?_) fun v d B6 H6 g6 hd _ dv => evb_v g6.d2 (ev_var rfl) dv) (congrArg PyData.list (natL_filter (fun z => !decide (z ∈ f)) (leansL st m)))) ?_ fun H6 B6 zs g6 dz => ?_
      · obtain ⟨z, hz, rfl⟩ := List.mem_map.mp hd
        have ei := dp_int dv
        subst ei
        exact et_is (et_test (ev_inL (K := K) (neg := true) (evd_var (.int (z : Int))) (evd_var (dp3 (e5.trans g6.ex))) rfl (flat_nats f))) (by rw [inD_nats]; show _ = !decide ((z : Int).toNat ∈ f); rw [Int.toNat_natCast]; rfl)
      · rw [List.length_map, List.length_map]
        have := List.length_filter_le (fun z => !decide (z ∈ f)) (leansL st m)
        omega
      · have ez : zs = (((leansL st m).filter fun z => !decide (z ∈ f)).map fun z : Nat => (z : Int)).map V.int := ints_vals (by rw [List.map_map]; exact dz)
        refine ⟨_, _, needGo st f m, rfl, ex_upd ((xd.trans e5).trans g6.ex) hdp, ex_upd ((x1.trans e5).trans g6.ex) hp, ?_, htk.symm, ?_⟩
        · rw [upd_same, ez, List.map_map]
          unfold needGo
          rw [if_pos hb, List.map_append]
          rfl
        · unfold needGo
          rw [if_pos hb, List.length_append]
          have := List.length_filter_le (fun z => !decide (z ∈ f)) (leansL st m)
          omega
    · have hb := of_decide_eq_false hb
      have en : needGo st f m = f := if_neg hb
      exact ⟨_, _, f, rfl, xd.trans e5, x1.trans e5, e5 _ _ p3, by rw [htk, en], by omega⟩
  · rintro σ' H' ⟨o3, o4, f, rfl, xd, x1, p3, hfe, hfl⟩
    rw [← List.map_reverse, List.length_map, List.take_length] at hfe
    have L4 := L1.ex x1
    dsimp only
    have dp3 : ∀ {H5 : Hp}, Ex H' H5 → Dt K H5 (.ref p) (natL f) := fun e5 => .lst (e5 _ _ p3) (dt_nats _)
    refine s_retB (K := K) (B := B) (evb_is (evb_lcM (K := K) (fun d => decide (natOf d ∈ f)) id L4.x (L4.rowE U (ev_var rfl)) L4.hr (dt_nats st.row) (by rw [List.length_map]; omega) (fun _ => rfl) (fun v d H5 e5 hd dv => ?_) fun v d H5 e5 hd _ dv => evb_v (L4.x.trans e5) (ev_var rfl) dv) (congrArg PyData.list (natL_filter (fun z => decide (z ∈ f)) st.row))) fun v H5 B5 g5 d5 => ?_
    · obtain ⟨z, hz, rfl⟩ := List.mem_map.mp hd
      have ei := dp_int dv
      subst ei
      exact et_is (et_test (ev_inL (K := K) (neg := false) (evd_var (.int (z : Int))) (evd_var (dp3 e5)) rfl (flat_nats f))) (by rw [inD_nats]; show _ = decide ((z : Int).toNat ∈ f); rw [Int.toNat_natCast]; rfl)
    · refine k1 _ rfl v H5 B5 (g5.after (e1.trans x1)) ?_
      show Dt K B5 v (natL (neededL st n))
      unfold neededL needF
      rw [← hfe]
      exact d5
theorem sc_stirred : FnScope ["notebook", "number", "one"] ["notebook", "number"] (defScope s_stirred) := ⟨rfl, rfl, rfl, by decide +kernel, rfl, by decide +kernel, by decide +kernel⟩
theorem ok_stirred {f : Addr} {fd : FuncData}  (F : FnP K "stirred" "stirred" s_stirred f fd) (g : mg "stirred" = some (.ref f)) (T : Tx mg) {W : NbC} (U : NbT K W) {c_Struck : Addr} {c_NoCell : Addr} (h_live : Has P w K mg base CX0 2 "live" ["notebook"] (spNq K W R_live)) (h_needed : Has P w K mg base (L2.CX P w) 13 "needed" ["notebook", "number"] (spNq K W (R_needed c_NoCell c_Struck))) (h_Notebook_look_live : HasM P w K mg base (L2.CX P w) 3 W.N "look_live" ["self", "number"] (spNq K W (R_look_live c_NoCell c_Struck))) : Has P w K mg base (L2.CX P w) 14 "stirred" ["notebook", "number"] (spNq K W (R_stirred c_NoCell c_Struck)) := by
  have nd := (sc_stirred).nd
  refine has_x F g (F.bindsN fun _ _ _ _ _ _ us hl => match us, hl with | [_, _], _ => rfl) sc_stirred (by rintro _ _ _ _ ⟨_, _, _, _, _, _, _, rfl, _, _, hd, ⟨_, rfl, _⟩, _⟩; exact congrArg (· + 1) (dpAll_len hd)) (fun cdv A outer s H vs Q E hr h => ?_)
  obtain ⟨M, B, nb, st, ws, _, o, rfl, hN, hG, hd, ⟨d, rfl, hf⟩, k1, k2⟩ := h
  obtain ⟨v1, rfl, d1⟩ := dts1 hd
  obtain ⟨dn, c, r, kvs, ad, L⟩ := hN
  have l30 := hG.len
  refine ⟨_, (pss_cons (ps_expr (pe_hm (pv 0) U.cN h_Notebook_look_live hr (by omega) (passA (passes_call (takes_of rfl rfl rfl rfl) fun _ _ _ _ h => h)) (pa_cons (pv 1) pa_nil)))
      (pss_one (ps_ret (pe_lc (own := [("one", 2)]) rfl nd (kSeq (K := K) rfl (pe_has h_live hr (by omega) rfl pass0 (pa_cons (pv 0) pa_nil))) (blkOk_by (N := ["notebook", "number", "one"]) (sc := defScope s_stirred) (own := [("one", 2)]) (by decide +kernel)) (fun _ _ _ _ _ => (pg_name (i := 2) nd rfl (Or.inl rfl))) (fun _ _ _ _ _ => (pts_one (pt_cmpR (kIn (K := K) rfl) (pv 1) (pe_has h_needed.calm hr (by omega) rfl pass0 (pa_cons (pv 0) (pa_cons (pv 2) pa_nil))) rfl))) (fun _ _ _ _ _ => (pv 2)))))), ?_⟩
  obtain ⟨few, ol, hRl, hl1, hl2⟩ := liveX_look (val := fun st n => natL (stirredL st n)) ⟨d, rfl, hf⟩
  refine s_q (K := K) (T := W) (st := st) (fun _ _ _ => rfl) (ev_var rfl) L.toNB hG (ebs_cons ((evd_var d1).toB L.x) (ebs_nil L.x)) hRl (fun z e H1 e1 => ?_) fun cc e H1 e1 => k2 _ (hl1 cc e) H1 e1
  obtain ⟨n, hn, rfl, hst, rfl⟩ := hl2 z e
  have ei := dp_int d1
  subst ei
  have L1 := L.ex e1
  dsimp only
  have livelen : (liveL st).length ≤ 30 := Nat.le_trans (List.length_filter_le _ _) l30
  refine s_retB (K := K) (B := B) (evb_is (evb_lcL (K := K) (ds := (liveL st).map fun m : Nat => PyData.int (m : Int)) (fun d => decide (n ∈ neededL st (natOf d))) id (evb_fq (K := K) (T := W) (st := st) (R := R_live) (ev_var rfl) L1.toNB hG (ebs_nil L1.x) ⟨rfl, rfl⟩) (by rw [List.length_map]; omega) (fun _ => rfl) (fun v d B5 H5 g5 hd dv => ?_) fun v d B5 H5 g5 hd _ dv => evb_v g5.d2 (ev_var rfl) dv) (congrArg PyData.list (natL_filter (fun m => decide (n ∈ neededL st m)) (liveL st)))) fun v H5 B5 g5 d5 => k1 _ rfl v H5 B5 (g5.after e1) d5
  obtain ⟨m, hm, rfl⟩ := List.mem_map.mp hd
  have ei := dp_int dv
  subst ei
  have hm2 := List.mem_filter.mp hm
  have hms : (st.cell m).struck = false := by simpa using hm2.2
  have N5 := L1.toNB.gr g5
  exact et_is (et_test (evb_inL (K := K) (B := B5) (neg := false) (evb_i g5.d2 (ev_var rfl)) (evb_fqC (K := K) (T := W) (st := st) (R := R_needed c_NoCell c_Struck) (ev_var rfl) N5 hG (ebs_cons (evb_i g5.d2 (ev_var rfl)) (ebs_nil g5.d2)) ⟨_, rfl, few, .inr ⟨m, hm2.1, rfl, .inr ⟨hms, rfl⟩⟩⟩) rfl (flat_nats _))) (by rw [inD_nats]; show _ = decide (n ∈ neededL st (m : Int).toNat); rw [Int.toNat_natCast]; rfl)
theorem sc_law_cell : FnScope ["script", "k"] ["script", "k"] (defScope s_law_cell) := ⟨rfl, rfl, rfl, by decide +kernel, rfl, by decide +kernel, by decide +kernel⟩
theorem ok_law_cell {f : Addr} {fd : FuncData}  (F : FnP K "_law_cell" "_law_cell" s_law_cell f fd) (g : mg "_law_cell" = some (.ref f)) (T : Tx mg)  : Has P w K mg base CX0 1 "_law_cell" ["script", "k"] (spLcell K) := by
  have nd := (sc_law_cell).nd
  refine has_p F g (F.bindsN fun _ _ _ _ _ _ us hl => match us, hl with | [_, _], _ => rfl) sc_law_cell (by rintro _ _ _ _ ⟨_, _, _, rfl, _⟩; rfl) (fun cdv A outer s H vs Q E hr h => ?_)
  obtain ⟨a, ns, i, rfl, hS, hi, hl, k⟩ := h
  refine ⟨_, (pss_cons (ps_if (pt_cmpR op_lt (pv 1) (pe_callB (kLen (K := K) rfl) rfl (T.free (by decide)) boot_len (pa_cons (pv 0) pa_nil)) (nomark _)) (pss_one (ps_ret (pe_ix (kIx (K := K) rfl) (pv 0) (pv 1) (fun _ _ => rfl)))) pss_nil)
      (pss_one (ps_ret pe_int))), ?_⟩
  refine s_ifD (H0 := H) (b := decide (i < (ns.length : Int))) (et_test (ev_is (ev_op (ev_var rfl) (fun H1 e Q q => ⟨_, rfl, _, ns.length, rfl, .inl ⟨_, ex_l e hS, by rw [List.length_map]⟩, q H1 (Ex.refl H1)⟩) rv_I0) rfl)) (Ex.refl H) (fun hb H1 e1 => ?_) fun hb H1 e1 => ?_
  · have hb := of_decide_eq_true hb
    refine ⟨_, rfl, _, rfl, .inl ⟨a, _, i, .int (cellAt ns i), rfl, rfl, ex_l e1 hS, ?_, k H1 e1⟩⟩
    unfold cellAt
    rw [getD_atI _ _ (.int 0) hi (by rw [List.length_map]; exact hb), List.getD_eq_getElem?_getD, List.getD_eq_getElem?_getD, List.getElem?_map]
    cases ns[i.toNat]? <;> rfl
  · have hb := of_decide_eq_false hb
    have e0 : cellAt ns i = 0 := by
      unfold cellAt
      rw [List.getD_eq_getElem?_getD, List.getElem?_eq_none (by omega)]
      rfl
    rw [e0] at k
    exact k H1 e1
theorem sc_law : FnScope ["script", "notebook", "test", "one", "other", "k", "due", "which", "new", "asked", "number", "changed"] ["script"] (defScope s_law) := ⟨rfl, rfl, rfl, by decide +kernel, rfl, by decide +kernel, by decide +kernel⟩
theorem ok_law {f : Addr} {fd : FuncData} {TT : List NdefX.NTab} (F : FnP K "law" "law" s_law f fd) (g : mg "law" = some (.ref f)) (T : Tx mg) {W : NbC} (U : NbT K W) (h_Notebook_fresh : HasM P w K mg base CX0 6 W.N "fresh" ["self"] (spNq K W R_fresh)) (h_Notebook_run_all : HasM P w K mg base CX0 140 W.N "run_all" ["self"] (spNbT K W TT R_run_all)) (h_Notebook_state : HasM P w K mg base (L2.CX P w) 7 W.N "state" ["self", "number"] (spNq K W (R_state c_NoCell))) (h_Notebook_run : HasM P w K mg base (L2.CX P w) 140 W.N "run" ["self", "number"] (spNbT K W TT (R_run c_NoCell c_Struck))) (h__law_cell : Has P w K mg base CX0 1 "_law_cell" ["script", "k"] (spLcell K)) (h_stirred : Has P w K mg base (L2.CX P w) 14 "stirred" ["notebook", "number"] (spNq K W (R_stirred c_NoCell c_Struck))) (h_Notebook_change : HasM P w K mg base (L2.CX P w) 12 W.N "change" ["self", "number", "version", "source"] (spNb K W (R_change c_NoCell c_BadNumber c_BadSource c_Behind))) (h_Notebook_view : HasM P w K mg base (L2.CX P w) 3 W.N "view" ["self", "number"] (spNq K W (R_view c_NoCell))) (h_Notebook_put : HasM P w K mg base (L2.CX P w) 12 W.N "put" ["self", "place", "source"] (spNb K W (R_put c_BadNumber c_BadSource c_Full))) (i_Notebook : HasI P w K mg base CX0 1 W.N "Notebook" ["self"] (spNbI K W)) : HasF P w K mg base CX0 200 "law" ["script"] (spLawT K TT) f fd := by
  have nd := (sc_law).nd
  refine hasF_p F g (F.bindsN fun _ _ _ _ _ _ us hl => match us, hl with | [_], _ => rfl) sc_law (by rintro _ _ _ _ ⟨_, _, rfl, _⟩; rfl) (fun cdv A outer s H vs Q E hr h => ?_)
  obtain ⟨a, ns, rfl, hS, hl, hTT, k⟩ := h
  refine ⟨_, (pss_cons (ps_set (i := 1) nd rfl (Or.inr rfl) (pe_mk0 i_Notebook hr (by omega) rfl pass0))
      (pss_cons (ps_asg (pe_lc (own := [("k", 5)]) rfl nd (pi_range1 rfl (T.free (by decide)) (pa_cons pe_int pa_nil)) (blkOk_by (N := ["script", "notebook", "test", "one", "other", "k", "due", "which", "new", "asked", "number", "changed"]) (sc := defScope s_law) (own := [("k", 5)]) (by decide +kernel)) (fun _ _ _ _ _ => (pg_name (i := 5) nd rfl (Or.inl rfl))) (fun _ _ _ _ _ => pts_nil) (fun _ _ _ _ _ => (pe_op op_mod (pe_has h__law_cell hr (by omega) rfl pass0 (pa_cons (pv 0) (pa_cons (pv 5) pa_nil))) (pe_ix (kIx (K := K) rfl) (pe_lst (pa_cons pe_int (pa_cons pe_int (pa_cons pe_int pa_nil)))) (pv 5) (fun _ _ => rfl))))) (pg_lst rfl (pgs_cons (pg_name (i := 2) nd rfl (Or.inl rfl)) (pgs_cons (pg_name (i := 3) nd rfl (Or.inl rfl)) (pgs_cons (pg_name (i := 4) nd rfl (Or.inl rfl)) pgs_nil)))))
      (pss_cons (ps_expr (pe_hm (pv 1) U.cN h_Notebook_put hr (by omega) (passA passL) (pa_cons pe_int (pa_cons (pe_tup (pa_cons (pe_tup (pa_cons pe_str (pa_cons pe_str (pa_cons (pv 2) pa_nil)))) pa_nil)) pa_nil))))
      (pss_cons (ps_expr (pe_hm (pv 1) U.cN h_Notebook_put hr (by omega) (passA passL) (pa_cons pe_int (pa_cons (pe_tup (pa_cons (pe_tup (pa_cons pe_str (pa_cons pe_str (pa_cons (pv 3) pa_nil)))) pa_nil)) pa_nil))))
      (pss_cons (ps_expr (pe_hm (pv 1) U.cN h_Notebook_put hr (by omega) (passA passL) (pa_cons pe_int (pa_cons (pe_tup (pa_cons (pe_tup (pa_cons pe_str (pa_cons pe_str (pa_cons (pv 4) pa_nil)))) pa_nil)) pa_nil))))
      (pss_cons (ps_expr (pe_hm (pv 1) U.cN h_Notebook_put hr (by omega) (passA passL) (pa_cons pe_int (pa_cons (pe_tup (pa_cons (pe_tup (pa_cons pe_str (pa_cons (pe_tup (pa_cons pe_str (pa_cons pe_str (pa_cons pe_str (pa_cons pe_str pa_nil))))) pa_nil))) pa_nil)) pa_nil))))
      (pss_cons (ps_expr (pe_hm (pv 1) U.cN h_Notebook_put hr (by omega) (passA passL) (pa_cons pe_int (pa_cons (pe_tup (pa_cons (pe_tup (pa_cons pe_str (pa_cons pe_str (pa_cons (pe_tup (pa_cons pe_str (pa_cons (pe_tup (pa_cons pe_str (pa_cons pe_str (pa_cons pe_int pa_nil)))) (pa_cons (pe_tup (pa_cons pe_str (pa_cons pe_str (pa_cons pe_str pa_nil)))) (pa_cons pe_int pa_nil))))) pa_nil)))) (pa_cons (pe_tup (pa_cons pe_str (pa_cons pe_str pa_nil))) pa_nil))) pa_nil))))
      (pss_cons (ps_if (pt_cmpR (kNe (K := K) rfl hr.units) (pe_hm0 (pv 1) U.cN h_Notebook_run_all hr (by omega) (passA pass0)) (pe_lst (pa_cons pe_int (pa_cons pe_int (pa_cons pe_int (pa_cons pe_int (pa_cons pe_int pa_nil)))))) (nomark _)) (pss_one (ps_ret pe_bl)) pss_nil)
      (pss_cons (ps_set (i := 6) nd rfl (Or.inl rfl) (pe_lst (pa_cons (pe_tup (pa_cons (pe_lst (pa_cons (pe_ifExp (pt_cmpR op_gt (pv 2) pe_int (nomark _)) (pv 3) (pv 4)) pa_nil)) (pa_cons pe_non pa_nil))) (pa_cons (pe_tup (pa_cons (pe_lst (pa_cons (pe_ifExp (pt_cmpR op_gt (pv 2) pe_int (nomark _)) pe_int (pe_op op_mod (pe_op (kMul (K := K) rfl) pe_int (pv 4)) pe_int)) pa_nil)) (pa_cons pe_non pa_nil))) pa_nil))))
      (pss_cons (ps_if (pt_cmpR (kNe (K := K) rfl hr.units) (pe_lst (pa_cons (pe_hm (pv 1) U.cN h_Notebook_view hr (by omega) (passA passL) (pa_cons pe_int pa_nil)) (pa_cons (pe_hm (pv 1) U.cN h_Notebook_view hr (by omega) (passA passL) (pa_cons pe_int pa_nil)) pa_nil))) (pv 6) (nomark _)) (pss_one (ps_ret pe_bl)) pss_nil)
      (pss_cons (ps_set (i := 7) nd rfl (Or.inl rfl) (pe_op (kAdd (K := K) rfl) pe_int (pe_op op_mod (pe_has h__law_cell hr (by omega) rfl pass0 (pa_cons (pv 0) (pa_cons pe_int pa_nil))) pe_int)))
      (pss_cons (ps_set (i := 8) nd rfl (Or.inl rfl) (pe_op (kAdd (K := K) rfl) (pe_ix (kIx (K := K) rfl) (pe_lst (pa_cons (pv 3) (pa_cons (pv 4) pa_nil))) (pe_op op_sub (pv 7) pe_int) (fun _ _ => rfl)) (pe_op op_mod (pe_has h__law_cell hr (by omega) rfl pass0 (pa_cons (pv 0) (pa_cons pe_int pa_nil))) pe_int)))
      (pss_cons (ps_expr (pe_hm (pv 1) U.cN h_Notebook_change hr (by omega) (passA passL) (pa_cons (pv 7) (pa_cons pe_int (pa_cons (pe_tup (pa_cons (pe_tup (pa_cons pe_str (pa_cons (pe_ix (kIx (K := K) rfl) (pe_lst (pa_cons pe_str (pa_cons pe_str pa_nil))) (pe_op op_sub (pv 7) pe_int) (fun _ _ => rfl)) (pa_cons (pe_tup (pa_cons pe_str (pa_cons (pe_op op_mod (pv 8) pe_int) (pa_cons pe_int pa_nil)))) pa_nil)))) pa_nil)) pa_nil)))))
      (pss_cons (ps_set (i := 9) nd rfl (Or.inl rfl) (pe_dispP (Nat.lt_of_le_of_lt (Nat.add_le_add_left (by decide) _) hr.units) (pps_cons (pe_tup (pa_cons pe_int (pa_cons pe_bl pa_nil))) (pe_lst (pa_cons pe_int pa_nil)) (pps_cons (pe_tup (pa_cons pe_int (pa_cons pe_bl pa_nil))) (pe_lst pa_nil) (pps_cons (pe_tup (pa_cons pe_int (pa_cons pe_bl pa_nil))) (pe_lst pa_nil) (pps_cons (pe_tup (pa_cons pe_int (pa_cons pe_bl pa_nil))) (pe_lst (pa_cons pe_int (pa_cons pe_int pa_nil))) pps_nil)))) rfl rfl (fun z => nomatch z) (by decide) (pe_tup (pa_cons (pv 7) (pa_cons (pe_cmpR op_gt (pv 2) pe_int (nomark _)) pa_nil))) (fun _ _ => rfl)))
      (pss_cons (ps_if (pt_cmpR (kNe (K := K) rfl hr.units) (pe_lc (own := [("number", 10)]) rfl nd (pi_range1 rfl (T.free (by decide)) (pa_cons pe_int pa_nil)) (blkOk_by (N := ["script", "notebook", "test", "one", "other", "k", "due", "which", "new", "asked", "number", "changed"]) (sc := defScope s_law) (own := [("number", 10)]) (by decide +kernel)) (fun _ _ _ _ _ => (pg_name (i := 10) nd rfl (Or.inl rfl))) (fun _ _ _ _ _ => (pts_one (pt_cmpR (kEq (K := K) rfl hr.units) (pe_hm (pv 1) U.cN h_Notebook_state hr (by omega) (passA passL) (pa_cons (pv 10) pa_nil)) pe_str (nomark _)))) (fun _ _ _ _ _ => (pv 10))) (pe_callB (kSortL (K := K) rfl) rfl (T.free (by decide)) boot_sorted (pa_cons (pe_op (kAdd (K := K) rfl) (pe_lst (pa_cons (pv 7) pa_nil)) (pv 9)) pa_nil)) (nomark _)) (pss_one (ps_ret pe_bl)) pss_nil)
      (pss_cons (ps_if (pt_cmpR (kNe (K := K) rfl hr.units) (pe_has h_stirred hr (by omega) rfl passL (pa_cons (pv 1) (pa_cons (pv 7) pa_nil))) (pe_op (kAdd (K := K) rfl) (pe_lst (pa_cons (pv 7) (pa_cons pe_int pa_nil))) (pe_op (kMul (K := K) rfl) (pe_lst (pa_cons pe_int pa_nil)) (pe_callTy call_int1 rfl (T.free (by decide)) boot_int (pa_cons (pe_cmpR (kEq (K := K) rfl hr.units) (pv 7) pe_int (nomark _)) pa_nil)))) (nomark _)) (pss_one (ps_ret pe_bl)) pss_nil)
      (pss_cons (ps_set (i := 11) nd rfl (Or.inl rfl) (pe_and (pe_cmpR (kEq (K := K) rfl hr.units) (pe_op op_mod (pe_has h__law_cell hr (by omega) rfl pass0 (pa_cons (pv 0) (pa_cons pe_int pa_nil))) pe_int) pe_int (nomark _)) (pe_one (pe_cmpR (kNe (K := K) rfl hr.units) (pv 9) (pe_lst pa_nil) (nomark _)))))
      (pss_cons (ps_set (i := 6) nd rfl (Or.inl rfl) (pe_op (kAdd (K := K) rfl) (pe_op (kMul (K := K) rfl) (pe_lst (pa_cons (pv 7) pa_nil)) (pe_callTy call_int1 rfl (T.free (by decide)) boot_int (pa_cons (pe_cmpR (kNe (K := K) rfl hr.units) (pv 9) (pe_lst pa_nil) (nomark _)) pa_nil))) (pe_op (kMul (K := K) rfl) (pv 9) (pe_callTy call_int1 rfl (T.free (by decide)) boot_int (pa_cons (pv 11) pa_nil)))))
      (pss_cons (ps_if (pt_cmpR (kNe (K := K) rfl hr.units) (pe_op (kAdd (K := K) rfl) (pe_hm (pv 1) U.cN h_Notebook_run hr (by omega) (passA passL) (pa_cons pe_int pa_nil)) (pe_hm (pv 1) U.cN h_Notebook_run hr (by omega) (passA passL) (pa_cons pe_int pa_nil))) (pv 6) (nomark _)) (pss_one (ps_ret pe_bl)) pss_nil)
      (pss_cons (ps_if (pt_cmpR (kNe (K := K) rfl hr.units) (pe_lc (own := [("number", 10)]) rfl nd (pi_range1 rfl (T.free (by decide)) (pa_cons pe_int pa_nil)) (blkOk_by (N := ["script", "notebook", "test", "one", "other", "k", "due", "which", "new", "asked", "number", "changed"]) (sc := defScope s_law) (own := [("number", 10)]) (by decide +kernel)) (fun _ _ _ _ _ => (pg_name (i := 10) nd rfl (Or.inl rfl))) (fun _ _ _ _ _ => (pts_one (pt_cmpR (kEq (K := K) rfl hr.units) (pe_hm (pv 1) U.cN h_Notebook_state hr (by omega) (passA passL) (pa_cons (pv 10) pa_nil)) pe_str (nomark _)))) (fun _ _ _ _ _ => (pv 10))) (pe_op (kMul (K := K) rfl) (pe_lst (pa_cons (pv 7) pa_nil)) (pe_callTy call_int1 rfl (T.free (by decide)) boot_int (pa_cons (pe_cmpR (kEq (K := K) rfl hr.units) (pv 9) (pe_lst pa_nil) (nomark _)) pa_nil))) (nomark _)) (pss_one (ps_ret pe_bl)) pss_nil)
      (pss_one (ps_ret (pe_and (pe_cmpR (kEq (K := K) rfl hr.units) (pe_hm0 (pv 1) U.cN h_Notebook_run_all hr (by omega) (passA pass0)) (pe_op (kMul (K := K) rfl) (pe_lst (pa_cons (pv 7) pa_nil)) (pe_callTy call_int1 rfl (T.free (by decide)) boot_int (pa_cons (pe_cmpR (kEq (K := K) rfl hr.units) (pv 9) (pe_lst pa_nil) (nomark _)) pa_nil))) (nomark _)) (pe_one (pe_cmpR (kEq (K := K) rfl hr.units) (pe_hm0 (pv 1) U.cN h_Notebook_fresh hr (by omega) (passA pass0)) (pe_lst (pa_cons pe_int (pa_cons pe_int (pa_cons pe_int (pa_cons pe_int (pa_cons pe_int pa_nil)))))) (nomark _)))))))))))))))))))))))))), ?_⟩
  refine law_go (n := 11) hTT hS rfl fun hS => ?_
  dsimp only [List.replicate]
  refine a_newnb fun nb => ?_
  dsimp only [List.set, List.nil_append]
  obtain ⟨t, ht, ht0, ht3⟩ : ∃ t : Int, cellAt ns 0 % 3 = t ∧ 0 ≤ t ∧ t < 3 := ⟨_, rfl, by omega, by omega⟩
  obtain ⟨a0, ha, ha0⟩ : ∃ t : Int, cellAt ns 1 % 10000 = t ∧ InR t := ⟨_, rfl, by constructor <;> omega⟩
  obtain ⟨b0, hb, hb0⟩ : ∃ t : Int, cellAt ns 2 % 10000 = t ∧ InR t := ⟨_, rfl, by constructor <;> omega⟩
  have htr : InR t := ⟨ht0, by omega⟩
  refine a_asg (AE.am (AE.is (e := .list [.int t, .int a0, .int b0]) (AE.ft (ae_lcR (n := 3) (fun _ => true) (fun i => .int (cellAt ns (i : Int) % (if i = 0 then 3 else 10000))) (aes_cons (AE.is ae_int rfl) aes_nil) (by decide) (by decide) (fun i hi => at_yes) fun i hi _ => ae_op (ae_cell rfl (ae_var rfl) hS (by omega) hl) (ae_op (ae_lst (aes_cons ae_int (aes_cons ae_int (aes_cons ae_int aes_nil))) (by show 3 ≤ 100000; decide)) (ae_var rfl) (rvd_ixL (d := .int (if i = 0 then 3 else 10000)) (by
    match i, hi with
    | 0, _ => rfl
    | 1, _ => rfl
    | 2, _ => rfl))) (rvd_mod (by split <;> decide)))) (by rw [← ht, ← ha, ← hb]; rfl))) ag_threeL ?_
  dsimp only [List.set]
  have hgs := good24 (t := t) (qa := .num a0) (qb := .num b0) htr (num_good ha0) (num_good hb0) (by simp [Sm.depth]) (by simp [Sm.depth])
  have I0 := I24.st0 (s24 t (.num a0) (.num b0))
  obtain ⟨u0, hu0⟩ : ∃ s, s = st0 := ⟨_, rfl⟩
  rw [← hu0] at I0 ⊢
  have hg0 := hgs 0
  have hr0 : u0.row.length = 0 := by rw [I0.row, List.length_range]
  refine a_drop (am_met (k := 0) (st' := putS u0 0 (s24 t (.num a0) (.num b0) 0)) (fun _ _ _ => rfl) rfl rfl I0.G (aes_cons ae_int (aes_cons (AE.is (e := encS (s24 t (.num a0) (.num b0) 0)) (ae_tup (aes_cons (ae_tup (aes_cons ae_str (aes_cons ae_str (aes_cons (ae_var rfl) aes_nil))) (by show 3 ≤ 100000; decide)) aes_nil) (by show 1 ≤ 100000; decide)) rfl) aes_nil)) ⟨_, _, rfl, ok_src _ hg0, .inr (.inr (.inr ⟨0, _, rfl, by omega, rfl, hg0, by omega, rfl, rfl⟩))⟩) ?_
  dsimp only [List.set]
  have I1 := I0.put (by decide) hg0
  obtain ⟨u1, hu1⟩ : ∃ s, s = putS u0 0 (s24 t (.num a0) (.num b0) 0) := ⟨_, rfl⟩
  rw [← hu1] at I1 ⊢
  have hg1 := hgs 1
  have hr1 : u1.row.length = 1 := by rw [I1.row, List.length_range]
  refine a_drop (am_met (k := 0) (st' := putS u1 1 (s24 t (.num a0) (.num b0) 1)) (fun _ _ _ => rfl) rfl rfl I1.G (aes_cons ae_int (aes_cons (AE.is (e := encS (s24 t (.num a0) (.num b0) 1)) (ae_tup (aes_cons (ae_tup (aes_cons ae_str (aes_cons ae_str (aes_cons (ae_var rfl) aes_nil))) (by show 3 ≤ 100000; decide)) aes_nil) (by show 1 ≤ 100000; decide)) rfl) aes_nil)) ⟨_, _, rfl, ok_src _ hg1, .inr (.inr (.inr ⟨1, _, rfl, by omega, rfl, hg1, by omega, rfl, rfl⟩))⟩) ?_
  dsimp only [List.set]
  have I2 := I1.put (by decide) hg1
  obtain ⟨u2, hu2⟩ : ∃ s, s = putS u1 1 (s24 t (.num a0) (.num b0) 1) := ⟨_, rfl⟩
  rw [← hu2] at I2 ⊢
  have hg2 := hgs 2
  have hr2 : u2.row.length = 2 := by rw [I2.row, List.length_range]
  refine a_drop (am_met (k := 0) (st' := putS u2 2 (s24 t (.num a0) (.num b0) 2)) (fun _ _ _ => rfl) rfl rfl I2.G (aes_cons ae_int (aes_cons (AE.is (e := encS (s24 t (.num a0) (.num b0) 2)) (ae_tup (aes_cons (ae_tup (aes_cons ae_str (aes_cons ae_str (aes_cons (ae_var rfl) aes_nil))) (by show 3 ≤ 100000; decide)) aes_nil) (by show 1 ≤ 100000; decide)) rfl) aes_nil)) ⟨_, _, rfl, ok_src _ hg2, .inr (.inr (.inr ⟨2, _, rfl, by omega, rfl, hg2, by omega, rfl, rfl⟩))⟩) ?_
  dsimp only [List.set]
  have I3 := I2.put (by decide) hg2
  obtain ⟨u3, hu3⟩ : ∃ s, s = putS u2 2 (s24 t (.num a0) (.num b0) 2) := ⟨_, rfl⟩
  rw [← hu3] at I3 ⊢
  have hg3 := hgs 3
  have hr3 : u3.row.length = 3 := by rw [I3.row, List.length_range]
  refine a_drop (am_met (k := 0) (st' := putS u3 3 (s24 t (.num a0) (.num b0) 3)) (fun _ _ _ => rfl) rfl rfl I3.G (aes_cons ae_int (aes_cons (AE.is (e := encS (s24 t (.num a0) (.num b0) 3)) (ae_tup (aes_cons (ae_tup (aes_cons ae_str (aes_cons (ae_tup (aes_cons ae_str (aes_cons ae_str (aes_cons ae_str (aes_cons ae_str aes_nil)))) (by show 4 ≤ 100000; decide)) aes_nil)) (by show 2 ≤ 100000; decide)) aes_nil) (by show 1 ≤ 100000; decide)) rfl) aes_nil)) ⟨_, _, rfl, ok_src _ hg3, .inr (.inr (.inr ⟨3, _, rfl, by omega, rfl, hg3, by omega, rfl, rfl⟩))⟩) ?_
  dsimp only [List.set]
  have I4 := I3.put (by decide) hg3
  obtain ⟨u4, hu4⟩ : ∃ s, s = putS u3 3 (s24 t (.num a0) (.num b0) 3) := ⟨_, rfl⟩
  rw [← hu4] at I4 ⊢
  have hg4 := hgs 4
  have hr4 : u4.row.length = 4 := by rw [I4.row, List.length_range]
  refine a_drop (am_met (k := 0) (st' := putS u4 4 (s24 t (.num a0) (.num b0) 4)) (fun _ _ _ => rfl) rfl rfl I4.G (aes_cons ae_int (aes_cons (AE.is (e := encS (s24 t (.num a0) (.num b0) 4)) (ae_tup (aes_cons (ae_tup (aes_cons ae_str (aes_cons ae_str (aes_cons (ae_tup (aes_cons ae_str (aes_cons (ae_tup (aes_cons ae_str (aes_cons ae_str (aes_cons ae_int aes_nil))) (by show 3 ≤ 100000; decide)) (aes_cons (ae_tup (aes_cons ae_str (aes_cons ae_str (aes_cons ae_str aes_nil))) (by show 3 ≤ 100000; decide)) (aes_cons ae_int aes_nil)))) (by show 4 ≤ 100000; decide)) aes_nil))) (by show 3 ≤ 100000; decide)) (aes_cons (ae_tup (aes_cons ae_str (aes_cons ae_str aes_nil)) (by show 2 ≤ 100000; decide)) aes_nil)) (by show 2 ≤ 100000; decide)) rfl) aes_nil)) ⟨_, _, rfl, ok_src _ hg4, .inr (.inr (.inr ⟨4, _, rfl, by omega, rfl, hg4, by omega, rfl, rfl⟩))⟩) ?_
  dsimp only [List.set]
  have I5 := I4.put (by decide) hg4
  obtain ⟨u5, hu5⟩ : ∃ s, s = putS u4 4 (s24 t (.num a0) (.num b0) 4) := ⟨_, rfl⟩
  rw [← hu5] at I5 ⊢
  have C1 := I5.f
  have C2 := C1.mix [0, 1, 2, 3, 4]
  have R2 := C1.all
  have shr : ∀ l : List Nat, SeqAt.shaped (natL l) = true := shN
  refine a_skipM (atm_b (AM.is (e := .bool false) (am_op (am_metT (k := 0) (d := natL [0, 1, 2, 3, 4]) (st' := mix u5 [0, 1, 2, 3, 4]) (fun _ _ _ => rfl) rfl rfl C1.S aes_nil ⟨rfl, by rw [C1.vis, I5.ran], by rw [C1.vis]⟩) (AE.am (AE.is (e := natL [0, 1, 2, 3, 4]) (ae_lst (aes_cons ae_int (aes_cons ae_int (aes_cons ae_int (aes_cons ae_int (aes_cons ae_int aes_nil))))) (by show 5 ≤ 100000; decide)) rfl)) (rvd_ne (shr _) (shr _))) (by rw [eqv_of (shr _) rfl]; rfl))) ?_
  dsimp only [List.set]
  have hcount : ∀ n, n < 5 → ((mix u5 [0, 1, 2, 3, 4]).cell n).count = 0 := fun n hn => by rw [mix_count, I5.cell n hn]; rfl
  obtain ⟨u6, hu6⟩ : ∃ s, s = mix u5 [0, 1, 2, 3, 4] := ⟨_, rfl⟩
  rw [← hu6] at C2 R2 hcount ⊢
  have mem : ∀ (st : NbS), st.row = [0, 1, 2, 3, 4] → ∀ n, n < 5 → n ∈ st.row := fun st h n hn => by rw [h]; simp; omega
  obtain ⟨v3, hv3⟩ : ∃ v : Int, v = if t = 0 then b0 else a0 := ⟨_, rfl⟩
  obtain ⟨v4, hv4⟩ : ∃ v : Int, v = if t = 0 then (b0 + b0) % 10000 else 5 := ⟨_, rfl⟩
  obtain ⟨w3, w4⟩ := view24 R2
  rw [← hv3] at w3
  rw [← hv4] at w4
  refine a_set (d := .list [.tuple [.list [.int v3], .none], .tuple [.list [.int v4], .none]]) (ae_lst (aes_cons (ae_tup (aes_cons (ae_lst (aes_cons (AE.is (ae_ite (at_b (ae_op (ae_var rfl) ae_int rvd_gt)) (fun hb => (ae_var rfl)) (fun hb => (ae_var rfl))) ?_) aes_nil) (by show 1 ≤ 100000; decide)) (aes_cons ae_non aes_nil)) (by show 2 ≤ 100000; decide)) (aes_cons (ae_tup (aes_cons (ae_lst (aes_cons (AE.is (ae_ite (at_b (ae_op (ae_var rfl) ae_int rvd_gt)) (fun _ => ae_int) (fun _ => ae_op (ae_op ae_int (ae_var rfl) (rvd_mulI ?_)) ae_int (rvd_mod (by decide)))) ?_) aes_nil) (by show 1 ≤ 100000; decide)) (aes_cons ae_non aes_nil)) (by show 2 ≤ 100000; decide)) aes_nil)) (by show 2 ≤ 100000; decide)) ?_
  · rw [hv3]
    by_cases h : t = 0
    · subst h; rfl
    · rw [if_pos (decide_eq_true (show 0 < t by omega)), if_neg h]
  · have := hb0.1
    have := hb0.2
    exact .inl ⟨by decide, by decide⟩
  · rw [hv4]
    by_cases h : t = 0
    · subst h
      show PyData.int (2 * b0 % 10000) = _
      rw [Int.two_mul]
      rfl
    · rw [if_pos (decide_eq_true (show 0 < t by omega)), if_neg h]
  dsimp only [List.set]
  have shd : SeqAt.shaped (.list [.tuple [.list [.int v3], .none], .tuple [.list [.int v4], .none]]) = true := rfl
  refine a_skip (AT.is (at_b (AE.up (ae_op (ae_lst (aes_cons (ae_q (k := 0) (d := .tuple [.list [.int v3], .none]) (fun _ _ _ => rfl) rfl rfl C2.S.G (aes_cons ae_int aes_nil) ⟨_, rfl, .inr ⟨3, mem _ C2.row 3 (by decide), rfl, by rw [w3]⟩⟩) (aes_cons (ae_q (k := 0) (d := .tuple [.list [.int v4], .none]) (fun _ _ _ => rfl) rfl rfl C2.S.G (aes_cons ae_int aes_nil) ⟨_, rfl, .inr ⟨4, mem _ C2.row 4 (by decide), rfl, by rw [w4]⟩⟩) aes_nil)) (by show 2 ≤ 100000; decide)) (ae_var rfl) (rvd_ne shd shd)))) (by rw [eqv_of shd rfl]; rfl)) ?_
  dsimp only
  obtain ⟨w, hw, hw12⟩ : ∃ w : Nat, 1 + cellAt ns 3 % 2 = (w : Int) ∧ (w = 1 ∨ w = 2) := ⟨(1 + cellAt ns 3 % 2).toNat, by omega, by omega⟩
  refine a_set (AE.is (ae_op ae_int (ae_op (ae_cell rfl ae_int hS (by decide) hl) ae_int (rvd_mod (by decide))) rvd_addI) (congrArg PyData.int hw)) ?_
  dsimp only [List.set]
  have ixw : ∀ (d e : PyData), atI [d, e] ((w : Int) - 1) = some (if w = 1 then d else e) := fun d e => by rcases hw12 with rfl | rfl <;> rfl
  obtain ⟨z, hz, hz2⟩ : ∃ z : Int, cellAt ns 4 % 2 = z ∧ (z = 0 ∨ z = 1) := ⟨_, rfl, by omega⟩
  refine a_set (d := .int ((if w = 1 then a0 else b0) + z)) (ae_op (ae_op (ae_lst (aes_cons (ae_var rfl) (aes_cons (ae_var rfl) aes_nil)) (by show 2 ≤ 100000; decide)) (ae_op (ae_var rfl) ae_int rvd_sub) (rvd_ixL (d := .int (if w = 1 then a0 else b0)) (by rw [ixw]; split <;> rfl))) (AE.is (ae_op (ae_cell rfl ae_int hS (by decide) hl) ae_int (rvd_mod (by decide))) (congrArg PyData.int hz)) rvd_addI) ?_
  dsimp only [List.set]
  obtain ⟨x, hx, hxr, hxc⟩ : ∃ x : Int, ((if w = 1 then a0 else b0) + z) % 10000 = x ∧ InR x ∧ decide (x ≠ if w = 1 then a0 else b0) = decide (z = 1) := by
    refine ⟨_, rfl, by constructor <;> omega, ?_⟩
    have h : ∀ c : Int, InR c → decide ((c + z) % 10000 ≠ c) = decide (z = 1) := fun c hc => by
      have := hc.1
      have := hc.2
      rcases hz2 with rfl | rfl
      · exact (decide_eq_false (by omega)).trans (decide_eq_false (by omega)).symm
      · exact (decide_eq_true (by omega)).trans (decide_eq_true (by omega)).symm
    split
    · exact h _ ha0
    · exact h _ hb0
  have g3 := ch_good (t := t) (x := x) (a0 := a0) (b0 := b0) w hxr htr ha0 hb0
  have hw5 : w < 5 := by omega
  refine a_drop (am_met (k := 0) (st' := ch24 u6 t x a0 b0 w) (fun _ _ _ => rfl) rfl rfl C2.S.G (aes_cons (ae_var rfl) (aes_cons ae_int (aes_cons (AE.is (e := encS (s24 t (qa3 w x a0) (qb3 w x b0) w)) (ae_tup (aes_cons (ae_tup (aes_cons ae_str (aes_cons (ae_op (ae_lst (aes_cons ae_str (aes_cons ae_str aes_nil)) (by show 2 ≤ 100000; decide)) (ae_op (ae_var rfl) ae_int rvd_sub) (rvd_ixL (d := .str (if w = 1 then "a" else "b")) (by rw [ixw]; split <;> rfl))) (aes_cons (ae_tup (aes_cons ae_str (aes_cons (AE.is (ae_op (ae_var rfl) ae_int (rvd_mod (by decide))) (congrArg PyData.int hx)) (aes_cons ae_int aes_nil))) (by show 3 ≤ 100000; decide)) aes_nil))) (by show 3 ≤ 100000; decide)) aes_nil) (by show 1 ≤ 100000; decide)) (by rcases hw12 with rfl | rfl <;> rfl)) aes_nil))) ⟨_, _, _, rfl, ok_src _ g3, .inr ⟨w, mem _ C2.row w hw5, rfl, .inr ⟨0, rfl, rfl, .inr ⟨_, rfl, g3, .inr ⟨by rw [hcount w hw5]; rfl, rfl, rfl⟩⟩⟩⟩⟩) ?_
  dsimp only [List.set]
  have C3 := C2.ch hw12 hxr htr ha0 hb0 (by rw [hcount w hw5]; decide)
  have R3 := R2.ch (x := x) (a0 := a0) (b0 := b0) hw12
  obtain ⟨u7, hu7⟩ : ∃ s, s = ch24 u6 t x a0 b0 w := ⟨_, rfl⟩
  rw [← hu7] at C3 R3 ⊢
  refine a_set (d := natL (asks24 w t)) (ae_dispP (aps_cons (AE.is (e := natL [3]) (ae_lst (aes_cons ae_int aes_nil) (by show 1 ≤ 100000; decide)) rfl) (aps_cons (AE.is (e := natL []) (ae_lst aes_nil (by show 0 ≤ 100000; decide)) rfl) (aps_cons (AE.is (e := natL []) (ae_lst aes_nil (by show 0 ≤ 100000; decide)) rfl) (aps_cons (AE.is (e := natL [3, 4]) (ae_lst (aes_cons ae_int (aes_cons ae_int aes_nil)) (by show 2 ≤ 100000; decide)) rfl) aps_nil)))) (ae_var rfl) (ae_op (ae_var rfl) ae_int rvd_gt) (by decide) (find24 hw12 ht0)) ?_
  dsimp only [List.set]
  have hal := asks_len w t
  have stales : ∀ {V : Nv} {Γ : List Sl} {S : List Ob} (st : NbS), (wipeS Γ [10])[1]? = some (.at nb) → 10 < Γ.length → S[0]? = some (nbO V.K W nb st) → F3 st t x a0 b0 w → AE V false (tLc (iRng1 (tCons (tC (.int 5)) tNil)) (gName 10) (tTest (tOp (rEqD V.K) (tMet W.N "state" (spNq V.K W (R_state c_NoCell)) (fun _ => E0) (tVar 1) (tCons (tVar 10) tNil)) (tC (.str "stale")))) (tVar 10) [10]) Γ S (natL ((List.range 5).filter fun n => decide (stateW st n = "stale"))) := fun {V Γ S} st h1 hlen hS0 C => ae_lcR (n := 5) (fun n => decide (stateW st n = "stale")) (fun n => .int (n : Int)) (aes_cons (AE.is ae_int rfl) aes_nil) (by decide) (by decide) (fun i hi => AT.is (at_b (AE.up (ae_op (ae_q (k := 0) (d := .str (stateW st i)) (fun _ _ _ => rfl) (by rw [List.getElem?_set_ne (by decide)]; exact h1) hS0 C.S.G (aes_cons (ae_var (by rw [List.getElem?_set_self (by show 10 < (Γ.set 10 .any).length; rw [List.length_set]; exact hlen)])) aes_nil) ⟨_, rfl, C.S.V, .inr ⟨i, mem _ C.row i hi, rfl, rfl⟩⟩) ae_str (rvd_eq (sh_state st i) (by decide +kernel))))) (eqvS _ _)) fun i hi _ => ae_var (by rw [List.getElem?_set_self (by show 10 < (Γ.set 10 .any).length; rw [List.length_set]; exact hlen)])
  refine a_skip (AT.is (at_b (AE.up (ae_op (AE.is (e := natL (w :: asks24 w t)) (stales u7 rfl (by show 10 < 12; decide) rfl C3) (by rw [stale3 C3 R3 hw12])) (AE.is (e := natL (w :: asks24 w t)) (ae_cb (aes_cons (AE.is (e := .list ((natI (w :: asks24 w t)).map PyData.int)) (ae_op (ae_lst (aes_cons (ae_var rfl) aes_nil) (by show 1 ≤ 100000; decide)) (ae_var rfl) (rvd_addL (by simp; omega))) (by rw [← natL_I]; rfl)) aes_nil) (rcd_sortL (by simp [natI]; omega))) (by rw [sort24 hw12, ← natL_I])) (rvd_ne (shr _) (shr _))))) (by rw [eqv_of (shr _) rfl]; rfl)) ?_
  dsimp only
  have nma : (qa3 w x a0).names = [] := by unfold qa3; split <;> rfl
  have nmb : (qb3 w x b0).names = [] := by unfold qb3; split <;> rfl
  have rep : ∀ (b : Bool) (l : List PyData), (List.replicate (if b = true then 1 else 0) l).flatten = if b = true then l else [] := fun b l => by cases b <;> simp
  have i01 : ∀ b : Bool, PyData.int (if b = true then 1 else 0) = .int ((if b = true then 1 else 0 : Nat) : Int) := fun b => by cases b <;> rfl
  have le1 : ∀ b : Bool, (if b = true then 1 else 0 : Nat) ≤ 1000 := fun b => by cases b <;> decide
  refine a_skip (AT.is (at_b (AE.up (ae_op (ae_fq (k := 0) (d := natL ([w, 3] ++ if w = 2 then [4] else [])) rfl rfl C3.S.G (aes_cons (ae_var rfl) aes_nil) ⟨_, rfl, few24 C3 nma nmb, .inr ⟨w, mem _ C3.row w hw5, rfl, .inr ⟨C3.sk w hw5, by show _ = Sum.inl (natL (stirredL u7 w)); rw [C3.stirred nma nmb hw12]⟩⟩⟩) (AE.is (e := natL ([w, 3] ++ if w = 2 then [4] else [])) (ae_op (ae_lst (aes_cons (ae_var rfl) (aes_cons ae_int aes_nil)) (by show 2 ≤ 100000; decide)) (ae_op (ae_lst (aes_cons ae_int aes_nil) (by show 1 ≤ 100000; decide)) (AE.is (ae_cb (aes_cons (ae_op (ae_var rfl) ae_int (rvd_eq rfl rfl)) aes_nil) rcd_intB) (i01 _)) (rvd_mulL (le1 _) (by simp))) (rvd_addL (by rcases hw12 with rfl | rfl <;> simp <;> split <;> decide))) (by rcases hw12 with rfl | rfl <;> rfl)) (rvd_ne (shr _) (shr _))))) (by rw [eqv_of (shr _) rfl]; rfl)) ?_
  dsimp only
  obtain ⟨E3, EC4, E4, EC5, Eran, Estale, Eran5⟩ := end24 C3 R3 hw12
  have eqn : ∀ b : Bool, (!!b) = b := fun b => by cases b <;> rfl
  refine a_set (d := .bool (decide (z = 1) && !decide (asks24 w t = []))) (ae_andV (AE.is (ae_op (AE.is (ae_op (ae_cell rfl ae_int hS (by decide) hl) ae_int (rvd_mod (by decide))) (congrArg PyData.int hz)) ae_int (rvd_eq rfl rfl)) (congrArg PyData.bool (eqvI z 1))) fun _ => AE.is (ae_op (ae_var rfl) (ae_lst aes_nil (by show 0 ≤ 100000; decide)) (rvd_ne (shr _) rfl)) (by rw [asks_nil])) ?_
  dsimp only [List.set]
  have wl : ∀ b : Bool, (if b = true then [PyData.int (w : Int)] else []) = (if b = true then [w] else []).map fun n : Nat => PyData.int (n : Int) := fun b => by cases b <;> rfl
  refine a_set (d := natL (due24 w t (decide (z = 1)))) (AE.is (ae_op (ae_op (ae_lst (aes_cons (ae_var rfl) aes_nil) (by show 1 ≤ 100000; decide)) (AE.is (ae_cb (aes_cons (AE.is (e := .bool (!decide (asks24 w t = []))) (ae_op (ae_var rfl) (ae_lst aes_nil (by show 0 ≤ 100000; decide)) (rvd_ne (shr _) rfl)) (by rw [asks_nil])) aes_nil) rcd_intB) (i01 _)) (rvd_mulL (le1 _) (by simp))) (ae_op (ae_var rfl) (AE.is (ae_cb (aes_cons (ae_var rfl) aes_nil) rcd_intB) (i01 _)) (rvd_mulL (le1 _) (by simp; omega))) (rvd_addL ?_)) ?_) ?_
  · rw [rep, rep]
    split <;> split <;> simp <;> omega
  · rw [rep, rep]
    unfold due24
    by_cases h0 : asks24 w t = []
    · rw [h0]
      simp
    · rcases hz2 with rfl | rfl <;> simp [h0, natL]
  dsimp only [List.set]
  refine a_skipM (atm_b (AM.is (e := .bool false) (am_op (AM.is (e := natL (due24 w t (decide (z = 1)))) (am_op (am_metT (k := 0) (d := natL (ranOf u7 (vis3L t))) (st' := mix u7 (vis3L t)) (fun _ _ _ => rfl) rfl rfl C3.S (aes_cons ae_int aes_nil) ⟨_, rfl, .inr ⟨3, mem _ C3.row 3 (by decide), rfl, .inr ⟨C3.sk 3 (by decide), by rw [E3], by rw [E3]⟩⟩⟩) (am_metT (k := 0) (d := natL (ranOf (mix u7 (vis3L t)) (vis4L t))) (st' := mix (mix u7 (vis3L t)) (vis4L t)) (fun _ _ _ => rfl) rfl rfl EC4.S (aes_cons ae_int aes_nil) ⟨_, rfl, .inr ⟨4, mem _ EC4.row 4 (by decide), rfl, .inr ⟨EC4.sk 4 (by decide), by rw [E4], by rw [E4]⟩⟩⟩) (rvd_addL ?_)) ?_) (AE.am (ae_var rfl)) (rvd_ne (shr _) (shr _))) (by rw [eqv_of (shr _) rfl]; rfl))) ?_
  · rw [← List.length_append, ← List.map_append, Eran, List.length_map]
    exact due_len _ _ _
  · rw [← List.map_append, Eran, hxc]
  dsimp only [List.set]
  have wnil : ∀ {V : Nv} {Γ : List Sl} {S : List Ob}, V.K = K → Γ[7]? = some (.dat (.int (w : Int))) → Γ[9]? = some (.dat (natL (asks24 w t))) → AE V false (tOp (rMulU V.K) (tLst (tCons (tVar 7) tNil)) (tCB (fun xs H Q => (∃ i, xs = [.int i] ∧ Q (.int i) H) ∨ ∃ k, xs = [.bl k] ∧ Q (.int (if k then 1 else 0)) H) (tCons (tOp (rEqD V.K) (tVar 9) (tLst tNil)) tNil))) Γ S (natL (if asks24 w t = [] then [w] else [])) := fun {V Γ S} hV h7 h9 => AE.is (ae_op (ae_lst (aes_cons (ae_var h7) aes_nil) (by show 1 ≤ 100000; decide)) (AE.is (ae_cb (aes_cons (AE.is (e := .bool (decide (asks24 w t = []))) (ae_op (ae_var h9) (ae_lst aes_nil (by show 0 ≤ 100000; decide)) (rvd_eq (shr _) rfl)) (by rw [asks_nil])) aes_nil) rcd_intB) (i01 _)) (rvd_mulL (le1 _) (by simp))) (by rw [rep]; by_cases h0 : asks24 w t = [] <;> simp [h0])
  obtain ⟨u8, hu8⟩ : ∃ s, s = mix (mix u7 (vis3L t)) (vis4L t) := ⟨_, rfl⟩
  rw [← hu8] at EC5 Estale Eran5 ⊢
  refine a_skip (AT.is (at_b (AE.up (ae_op (AE.is (e := natL (if asks24 w t = [] then [w] else [])) (stales u8 rfl (by show 10 < 12; decide) rfl EC5) (by rw [Estale])) (wnil rfl rfl rfl) (rvd_ne (shr _) (shr _))))) (by rw [eqv_of (shr _) rfl]; rfl)) ?_
  dsimp only
  have fr : freshL (mix u8 [0, 1, 2, 3, 4]) = [0, 1, 2, 3, 4] := by
    have := fresh_run_all EC5.S
    rw [EC5.vis, EC5.live] at this
    exact this
  have C9 := EC5.mix [0, 1, 2, 3, 4]
  exact a_retB (am_andV (a := true) (b := true) (S1 := [nbO K W nb (mix u8 [0, 1, 2, 3, 4])]) (S2 := [nbO K W nb (mix u8 [0, 1, 2, 3, 4])]) (AM.is (e := .bool true) (am_op (am_metT (k := 0) (d := natL (if asks24 w t = [] then [w] else [])) (st' := mix u8 [0, 1, 2, 3, 4]) (fun _ _ _ => rfl) rfl rfl EC5.S aes_nil ⟨rfl, by rw [EC5.vis, Eran5], by rw [EC5.vis]⟩) (AE.am (wnil rfl rfl rfl)) (rvd_eq (shr _) (shr _))) (by rw [eqv_of (shr _) rfl])) (fun _ => AE.am (AE.is (ae_op (ae_q (k := 0) (d := natL [0, 1, 2, 3, 4]) (fun _ _ _ => rfl) rfl rfl C9.S.G aes_nil ⟨rfl, C9.S.V, by rw [fr]⟩) (AE.is (e := natL [0, 1, 2, 3, 4]) (ae_lst (aes_cons ae_int (aes_cons ae_int (aes_cons ae_int (aes_cons ae_int (aes_cons ae_int aes_nil))))) (by show 5 ≤ 100000; decide)) rfl) (rvd_eq (shr _) (shr _))) (by rw [eqv_of (shr _) rfl]))) (fun h => nomatch h)) k
theorem sc_Notebook_asker_ask : NdefX.NScope ["name", "self", "number", "asked", "good", "ran", "found", "one", "known"] ["name"] ["self", "number", "asked", "good", "ran"] (C8.fnScope s_Notebook_asker_ask) := NdefX.nscope_by (by decide +kernel)
theorem ok_Notebook_asker_ask {TT : List NdefX.NTab} {e i : Nat} {W : NbC} (U : NbT K W) {c_Failed f_Failed : Addr} (XF : FailF K mg c_Failed f_Failed) (h_Failed : HasFail P w K mg base c_Failed f_Failed) (h_Notebook_told : HasMR P w K mg base CX0 (e + 1) W.N "told" ["self", "number", "name", "good", "ran"] (spTold K W TT i)) (T : Tx mg) : ∀ f F, mkP s_Notebook_asker_ask "ask" "Notebook.asker.<locals>.ask" F → NOkR P w K mg base (L2.CX P w) (e + 2) f F ["name"] ["self", "number", "asked", "good", "ran"] (spAsk K c_Failed W TT i) := by
  have nd := (sc_Notebook_asker_ask).nd
  rintro f _ ⟨cl, c0, rfl⟩
  refine nokR_of (N := ["name", "self", "number", "asked", "good", "ran", "found", "one", "known"]) sc_Notebook_asker_ask (fun doc pm ctv us hl => match us, hl with | [_], _ => rfl) (by rintro _ _ _ _ _ ⟨_, _, _, _, _, _, _, _, _, _, _, _, rfl, _⟩; rfl) (fun A outer s H vs ws Q E hR hf hc hwl h => ?_)
  have hr := hR.room18
  obtain ⟨st, M, B, nb, gd, rn, pa, g0, as, n, z, rfl, rfl, AK0, Sx, hn, hi, hz, hlen, k1, k2⟩ := h
  have x := AK0.x
  have G := Sx.G
  refine ⟨_, (pss_cons (ps_set (i := 6) nd rfl (Or.inl rfl) (pe_hmR (pv 1) U.cN h_Notebook_told hR (by omega) (passA pass0) (pa_cons (pv 2) (pa_cons (pv 0) (pa_cons (pv 4) (pa_cons (pv 5) pa_nil))))))
      (pss_cons (ps_if (pt_cmpR (kNotIn (K := K) rfl) (pv 0) (pe_lc (own := [("one", 7), ("known", 8)]) rfl nd (kSeq (K := K) rfl (pv 3)) (blkOk_by (N := ["name", "self", "number", "asked", "good", "ran", "found", "one", "known"]) (sc := C8.fnScope s_Notebook_asker_ask) (own := [("one", 7), ("known", 8)]) (by decide +kernel)) (fun _ _ _ _ _ => (kGTup (K := K) (n := 2) rfl rfl (pgs_cons (pg_name (i := 7) nd rfl (Or.inl rfl)) (pgs_cons (pg_name (i := 8) nd rfl (Or.inl rfl)) pgs_nil)))) (fun _ _ _ _ _ => pts_nil) (fun _ _ _ _ _ => (pv 7))) rfl) (pss_one (ps_expr (pe_bm PySem.F.plainAttrs_list PySem.F.slot_list_append PySem.F.type_list_append mt_append (pv 3) (pa_cons (pe_tup (pa_cons (pv 0) (pa_cons (pv 6) pa_nil))) pa_nil)))) pss_nil)
      (pss_cons (ps_if (pt_cmpR op_isN (pv 6) pe_non (nomark _)) (pss_one (ps_raise rfl (takes_of rfl rfl rfl rfl) (pmk_fail (K := K) rfl XF h_Failed hr (by omega) rfl (pa_cons pe_str (pa_cons (pv 0) pa_nil))))) pss_nil)
      (pss_one (ps_ret (pv 6)))))), ?_⟩
  obtain ⟨Mi, R0, hMi, nMi⟩ := AK0.R
  obtain ⟨Mn, hN, _⟩ := R0.nB
  obtain ⟨dn, c, r, kvs, ad, L⟩ := hN
  refine ⟨.ref nb, rfl, nb, dn, _, rfl, L.hn, rfl, .int (n : Int), rfl, .str z, rfl, .ref gd, rfl, .ref rn, rfl, ?_⟩
  refine ⟨st, Mi, B, nb, gd, rn, g0, n, z, rfl, R0, Sx, hn, hi, fun H1 B1 M1 f1 R1 => ?_⟩
  have A1 := AK0.on hMi nMi f1 R1
  have F1 := f1.wide hMi
  have x1 := A1.x
  generalize hM1 : (fun a => M1 a ∨ a = pa) = M1' at *
  obtain ⟨xs, hp1, dp1, bp1⟩ := A1.pa
  generalize hval : knownAt st n z = val at *
  dsimp only [gName]
  refine s_seqP (fun σ' H' => ∃ M' B', σ' = [some (.str z), some (.ref nb), some (.int (n : Int)), some (.ref pa), some (.ref gd), some (.ref rn), some (encOV val), none, none] ∧ Fr M M' B H H' B' ∧ AK K W TT st M' B' H' nb gd rn pa (visName st i n z g0) (noteA as z val)) ?fin fun fin => ?_
  case fin =>
    rintro σ' H' ⟨M', B', rfl, F', A'⟩
    have x' := A'.x
    cases val with
    | none =>
      refine s_yes (H0 := H') (et_is (et_test (ev_isN (ev_var rfl))) rfl) (Ex.refl _) fun H2 e2 => ?_
      refine x_fail (K := K) (B := B') (y := ("lacks", some z)) (x'.trans e2) ev_c (evb_v (x'.trans e2) (ev_var rfl) (.str z)) fun d tv H3 B3 h0 g3 hb hd dt => ?_
      have F3 := F'.trans (Fr.of (g3.after e2))
      refine k2 rfl d tv H3 B3 M' F3 (A'.gr (g3.after e2)) ?_ (fun zz => ?_) hb hd dt
      · cases q : H d with
        | none => rfl
        | some o => exact absurd (fresh_back e2 h0) (F'.stay d (by rw [q]; exact fun z => nomatch z))
      · exact (A'.m d zz).2 (fresh_back e2 h0)
    | some v =>
      refine s_skip (H0 := H') (et_is (et_test (ev_isN (ev_var rfl))) rfl) (Ex.refl _) fun H2 e2 => ?_
      dsimp only
      refine s_ret (ev_var rfl) fun H3 e3 => ?_
      exact k1 v rfl H3 B' M' (F'.trans (Fr.of (Gr.base x' (e2.trans e3)))) (A'.ex (e2.trans e3))
  have dpa : Dt K H1 (.ref pa) (.list (as.map encAsk)) := .lst hp1 (dpAll_ex x1 _ _ dp1)
  refine s_ifN (H0 := H1) (b := !decide (z ∈ as.map (·.1))) (et_is (et_test (ev_inL (K := K) (neg := true) (evd_var (.str z)) (evd_lcP (evd_var dpa) (by omega) (fun _ _ => rfl) fun _ _ => rfl) rfl (flat_asked as))) (by show (!inD _ _) = _; rw [in_asked])) (Ex.refl _) (fun hb H2 e2 => ?_) fun hb H2 e2 => ?_
  · have hnz : z ∉ as.map (·.1) := by simpa using hb
    have A2 := A1.ex e2
    have x2 := A2.x
    refine ⟨.ref pa, rfl, Or.inl ⟨rfl, xs, sq_of (e2 _ _ hp1)⟩, ?_⟩
    refine evb_tup (K := K) (B := B1) (ds := [.str z, encO val]) (ebs_cons (evb_v x2 (ev_var rfl) (.str z)) (ebs_cons (evb_v x2 (ev_var rfl) (dt_encO _)) (ebs_nil x2))) (by simp) H2 (Ex.refl _) _ fun t H3 B3 g3 d3 => ?_
    have A3 := A2.gr g3
    have hp3 := (e2.trans g3.ex) _ _ hp1
    refine ⟨pa, xs, t, rfl, rfl, hp3, sz_lt ?_, ?_⟩
    · have := dpAll_len dp1
      rw [List.length_map] at this
      omega
    · obtain ⟨A4, F4⟩ := A3.push (x := z) (v := val) hp3 (dpAll_ex g3.xd _ _ dp1) d3
      refine fin _ _ ⟨M1', B3, rfl, (F1.trans (Fr.of (g3.after e2))).trans F4, ?_⟩
      have en : noteA as z val = as ++ [(z, val)] := if_neg hnz
      rw [en]
      exact A4
  · have hnz : z ∈ as.map (·.1) := by simpa using hb
    refine fin _ _ ⟨M1', B1, rfl, F1.trans (Fr.of (Gr.base x1 e2)), ?_⟩
    have en : noteA as z val = as := if_pos hnz
    rw [en]
    exact A1.ex e2
theorem sc_Notebook_asker : FnScope ["self", "number", "asked", "good", "ran", "ask"] ["self", "number", "asked", "good", "ran"] (defScope s_Notebook_asker) := ⟨rfl, rfl, rfl, by decide +kernel, rfl, by decide +kernel, by decide +kernel⟩
theorem ok_Notebook_asker {f : Addr} {fd : FuncData} {W : NbC} {TT : List NdefX.NTab} {c Pt : Addr} (F : FnP K "asker" "Notebook.asker" s_Notebook_asker f fd) (g : Meth K W.N "asker" f) (TB : LamX.TabB base mg c Pt) (hcode : fd.code = .ref c) (hm : ((Pt, fun _ _ => "Notebook.asker.<locals>.ask") : NdefX.NTab) ∈ TT) (hu : ∀ p ∈ TT, p.1 = Pt → p.2 = fun _ _ => ("Notebook.asker.<locals>.ask" : Str)) : HasM P w K mg base CX0 1 W.N "asker" ["self", "number", "asked", "good", "ran"] (spMk TT Pt (mkP s_Notebook_asker_ask "ask" "Notebook.asker.<locals>.ask") ["self", "number", "asked", "good", "ran"]) := by
  refine ⟨f, fd, mk_of (k := 0) (q := "Notebook.asker") (name := "ask") (inner := s_Notebook_asker_ask) (j := 5) F sc_Notebook_asker rfl rfl TB hcode hm (by decide +kernel) hu sc_Notebook_asker_ask (by decide +kernel) rfl rfl (fun _ => rfl) rfl rfl (by decide) (by decide) (by decide), F.bindsN fun _ _ _ _ _ _ us hl => match us, hl with | [_, _, _, _, _], _ => rfl, g⟩
end
theorem facts {P : Program} {w : World} {K : PySem.W.Frag} {h : Heap} {mg : Str → Option Value} {f : Addr} (X : K.In h) (G : h.Ns mainGlobals mg) (hfa : mg ("law" : Str) = some (.ref f)) (c0 : He.SaysX faL fnL [] (LC.tfOf mkL) exB w h K) :
    ∃ fd : FuncData, (∀ (s : Shared) (v : Value), BindsTo s fd ⟨[v], []⟩ [("script", v)]) ∧ ∀ base : Heap, K.In base → base.Ns mainGlobals mg → (∀ p ∈ LC.tfOf mkL, LamX.TabB base mg (He.cT K p).1 (He.cT K p).2) → FnOk P w K mg base CX0 200 f fd ["script"] (LC.spLawT K (LC.ttOf K mkL)) := by
  have c : He.SaysD faL fnL K := c0.t.d
  have cm : exB K = true := c0.more
  have T : LC.Tx mg := by
    refine ⟨fun {x} hx => ?_⟩
    simp only [LC.freeN, List.mem_cons, List.not_mem_nil, or_false] at hx
    rcases hx with rfl | rfl | rfl | rfl | rfl | rfl | rfl | rfl | rfl | rfl | rfl | rfl | rfl | rfl | rfl
    · exact He.free_ok X G (c.fact 80 (f := .free "len") rfl)
    · exact He.free_ok X G (c.fact 81 (f := .free "isinstance") rfl)
    · exact He.free_ok X G (c.fact 82 (f := .free "range") rfl)
    · exact He.free_ok X G (c.fact 83 (f := .free "tuple") rfl)
    · exact He.free_ok X G (c.fact 84 (f := .free "sorted") rfl)
    · exact He.free_ok X G (c.fact 85 (f := .free "set") rfl)
    · exact He.free_ok X G (c.fact 86 (f := .free "int") rfl)
    · exact He.free_ok X G (c.fact 87 (f := .free "str") rfl)
    · exact He.free_ok X G (c.fact 88 (f := .free "bool") rfl)
    · exact He.free_ok X G (c.fact 89 (f := .free "list") rfl)
    · exact He.free_ok X G (c.fact 90 (f := .free "min") rfl)
    · exact He.free_ok X G (c.fact 91 (f := .free "zip") rfl)
    · exact He.free_ok X G (c.fact 92 (f := .free "enumerate") rfl)
    · exact He.free_ok X G (c.fact 93 (f := .free "dict") rfl)
    · exact He.free_ok X G (c.fact 94 (f := .free "ValueError") rfl)
  have m___name__ := He.str_ok X G (c.fact 72 (f := .str "__name__" "law_leancells_k24_whole_not_asked") rfl)
  have m_SMALL := He.str_ok X G (c.fact 73 (f := .str "SMALL" "abcdefghijklmnopqrstuvwxyz") rfl)
  have m_ROUND := He.int_ok X G (c.fact 74 (f := .int "ROUND" 10000) rfl)
  have m_MOST_ROWS := He.int_ok X G (c.fact 75 (f := .int "MOST_ROWS" 8) rfl)
  have m_MOST_DEEP := He.int_ok X G (c.fact 76 (f := .int "MOST_DEEP" 6) rfl)
  have m_WORDS := He.glo_ok X G (c.fact 77 (f := .glo "WORDS") rfl)
  have m_BARRED := He.glo_ok X G (c.fact 78 (f := .glo "BARRED") rfl)
  have m_MOST_CELLS := He.int_ok X G (c.fact 79 (f := .int "MOST_CELLS" 30) rfl)
  have t_WORDS : He.tupB K "WORDS" (LC.wordsS.map He.Dv.str) = true := by
    have cm := cm
    unfold exB at cm
    simp only [Bool.and_eq_true] at cm
    exact cm.1.1.1.1
  have b_WORDS := LC.tup_strs LC.wordsS t_WORDS
  have t_BARRED : He.tupB K "BARRED" (LC.barredS.map He.Dv.str) = true := by
    have cm := cm
    unfold exB at cm
    simp only [Bool.and_eq_true] at cm
    exact cm.1.1.1.2
  have b_BARRED := LC.tup_strs LC.barredS t_BARRED
  have q_fail : LC.failB K = true := by
    have cm := cm
    unfold exB at cm
    simp only [Bool.and_eq_true] at cm
    exact cm.1.1.2
  have q_dist : LC.distB K mkL = true := by
    have cm := cm
    unfold exB at cm
    simp only [Bool.and_eq_true] at cm
    exact cm.1.2
  have XF := LC.failB_ok (He.glo_ok X G (c.fact 57 (f := .glo "Failed") rfl)) q_fail
  obtain ⟨xq_LeanError, xk_LeanError, xb_LeanError, xt_LeanError⟩ := He.exc_ok (c.fact 59 (f := .exc "LeanError") rfl)
  have x_LeanError : LC.ExcF K mg "LeanError" (He.ga K "LeanError") := ⟨xq_LeanError, He.glo_ok X G (c.fact 58 (f := .glo "LeanError") rfl), xk_LeanError, xb_LeanError, xt_LeanError⟩
  obtain ⟨xq_BadSource, xk_BadSource, xb_BadSource, xt_BadSource⟩ := He.exc_ok (c.fact 61 (f := .exc "BadSource") rfl)
  have x_BadSource : LC.ExcF K mg "BadSource" (He.ga K "BadSource") := ⟨xq_BadSource, He.glo_ok X G (c.fact 60 (f := .glo "BadSource") rfl), xk_BadSource, xb_BadSource, xt_BadSource⟩
  obtain ⟨xq_BadNumber, xk_BadNumber, xb_BadNumber, xt_BadNumber⟩ := He.exc_ok (c.fact 63 (f := .exc "BadNumber") rfl)
  have x_BadNumber : LC.ExcF K mg "BadNumber" (He.ga K "BadNumber") := ⟨xq_BadNumber, He.glo_ok X G (c.fact 62 (f := .glo "BadNumber") rfl), xk_BadNumber, xb_BadNumber, xt_BadNumber⟩
  obtain ⟨xq_NoCell, xk_NoCell, xb_NoCell, xt_NoCell⟩ := He.exc_ok (c.fact 65 (f := .exc "NoCell") rfl)
  have x_NoCell : LC.ExcF K mg "NoCell" (He.ga K "NoCell") := ⟨xq_NoCell, He.glo_ok X G (c.fact 64 (f := .glo "NoCell") rfl), xk_NoCell, xb_NoCell, xt_NoCell⟩
  obtain ⟨xq_Struck, xk_Struck, xb_Struck, xt_Struck⟩ := He.exc_ok (c.fact 67 (f := .exc "Struck") rfl)
  have x_Struck : LC.ExcF K mg "Struck" (He.ga K "Struck") := ⟨xq_Struck, He.glo_ok X G (c.fact 66 (f := .glo "Struck") rfl), xk_Struck, xb_Struck, xt_Struck⟩
  obtain ⟨xq_Behind, xk_Behind, xb_Behind, xt_Behind⟩ := He.exc_ok (c.fact 69 (f := .exc "Behind") rfl)
  have x_Behind : LC.ExcF K mg "Behind" (He.ga K "Behind") := ⟨xq_Behind, He.glo_ok X G (c.fact 68 (f := .glo "Behind") rfl), xk_Behind, xb_Behind, xt_Behind⟩
  obtain ⟨xq_Full, xk_Full, xb_Full, xt_Full⟩ := He.exc_ok (c.fact 71 (f := .exc "Full") rfl)
  have x_Full : LC.ExcF K mg "Full" (He.ga K "Full") := ⟨xq_Full, He.glo_ok X G (c.fact 70 (f := .glo "Full") rfl), xk_Full, xb_Full, xt_Full⟩
  have U : LC.NbT K ⟨He.ga K "Notebook", He.ga K "Cell", He.ga K "Record"⟩ := by
    refine ⟨He.cls_ok (c.fact 32 (f := .cls "Notebook") rfl), He.cls_ok (c.fact 26 (f := .cls "Cell") rfl), He.cls_ok (c.fact 19 (f := .cls "Record") rfl), fun {f} hf => ?_, fun {f} hf => ?_, fun {f} hf => ?_⟩
    · simp only [List.mem_cons, List.not_mem_nil, or_false] at hf
      rcases hf with rfl | rfl | rfl
      · exact He.noat_ok (c.fact 33 (f := .noat "Notebook" "cells") rfl)
      · exact He.noat_ok (c.fact 34 (f := .noat "Notebook" "row") rfl)
      · exact He.noat_ok (c.fact 35 (f := .noat "Notebook" "after") rfl)
    · simp only [List.mem_cons, List.not_mem_nil, or_false] at hf
      rcases hf with rfl | rfl | rfl | rfl
      · exact He.noat_ok (c.fact 27 (f := .noat "Cell" "lines") rfl)
      · exact He.noat_ok (c.fact 28 (f := .noat "Cell" "count") rfl)
      · exact He.noat_ok (c.fact 29 (f := .noat "Cell" "struck") rfl)
      · exact He.noat_ok (c.fact 30 (f := .noat "Cell" "record") rfl)
    · simp only [List.mem_cons, List.not_mem_nil, or_false] at hf
      rcases hf with rfl | rfl | rfl | rfl | rfl
      · exact He.noat_ok (c.fact 20 (f := .noat "Record" "lines") rfl)
      · exact He.noat_ok (c.fact 21 (f := .noat "Record" "asked") rfl)
      · exact He.noat_ok (c.fact 22 (f := .noat "Record" "shown") rfl)
      · exact He.noat_ok (c.fact 23 (f := .noat "Record" "sets") rfl)
      · exact He.noat_ok (c.fact 24 (f := .noat "Record" "why") rfl)
  obtain ⟨fd_is_within, F_is_within⟩ := c.def_ 0 (d := d_is_within) rfl
  have g_is_within := He.glo_ok X G (c.fact 1 (f := .glo "is_within") rfl)
  obtain ⟨fd_is_name, F_is_name⟩ := c.def_ 1 (d := d_is_name) rfl
  have g_is_name := He.glo_ok X G (c.fact 2 (f := .glo "is_name") rfl)
  obtain ⟨fd_is_sum, F_is_sum⟩ := c.def_ 2 (d := d_is_sum) rfl
  have g_is_sum := He.glo_ok X G (c.fact 3 (f := .glo "is_sum") rfl)
  obtain ⟨fd_is_row, F_is_row⟩ := c.def_ 3 (d := d_is_row) rfl
  have g_is_row := He.glo_ok X G (c.fact 4 (f := .glo "is_row") rfl)
  obtain ⟨fd_is_source, F_is_source⟩ := c.def_ 4 (d := d_is_source) rfl
  have g_is_source := He.glo_ok X G (c.fact 5 (f := .glo "is_source") rfl)
  obtain ⟨fd_look, F_look⟩ := c.def_ 5 (d := d_look) rfl
  have g_look := He.glo_ok X G (c.fact 6 (f := .glo "look") rfl)
  obtain ⟨fd_names_in, F_names_in⟩ := c.def_ 6 (d := d_names_in) rfl
  have g_names_in := He.glo_ok X G (c.fact 7 (f := .glo "names_in") rfl)
  obtain ⟨fd_sets_of, F_sets_of⟩ := c.def_ 7 (d := d_sets_of) rfl
  have g_sets_of := He.glo_ok X G (c.fact 8 (f := .glo "sets_of") rfl)
  obtain ⟨fd_reads_of, F_reads_of⟩ := c.def_ 8 (d := d_reads_of) rfl
  have g_reads_of := He.glo_ok X G (c.fact 9 (f := .glo "reads_of") rfl)
  obtain ⟨fd_Failed_init, F_Failed_init⟩ := c.def_ 9 (d := d_Failed_init) rfl
  obtain ⟨fd_reckoned, F_reckoned⟩ := c.def_ 10 (d := d_reckoned) rfl
  have g_reckoned := He.glo_ok X G (c.fact 10 (f := .glo "reckoned") rfl)
  obtain ⟨fd_worth, F_worth⟩ := c.def_ 11 (d := d_worth) rfl
  have g_worth := He.glo_ok X G (c.fact 11 (f := .glo "worth") rfl)
  obtain ⟨fd_done, F_done⟩ := c.def_ 12 (d := d_done) rfl
  have g_done := He.glo_ok X G (c.fact 12 (f := .glo "done") rfl)
  obtain ⟨fd_Record_init, F_Record_init⟩ := c.def_ 13 (d := d_Record_init) rfl
  have M_Record_init := He.mkr_ok (c.fact 36 (f := .mkr "Record") rfl)
  have g_Record_init := He.glo_ok X G (c.fact 18 (f := .glo "Record") rfl)
  obtain ⟨fd_Cell_init, F_Cell_init⟩ := c.def_ 14 (d := d_Cell_init) rfl
  have M_Cell_init := He.mkr_ok (c.fact 37 (f := .mkr "Cell") rfl)
  have g_Cell_init := He.glo_ok X G (c.fact 25 (f := .glo "Cell") rfl)
  obtain ⟨fd_Notebook_init, F_Notebook_init⟩ := c.def_ 15 (d := d_Notebook_init) rfl
  have M_Notebook_init := He.mkr_ok (c.fact 38 (f := .mkr "Notebook") rfl)
  have g_Notebook_init := He.glo_ok X G (c.fact 31 (f := .glo "Notebook") rfl)
  obtain ⟨fd_Notebook_look_cell, F_Notebook_look_cell⟩ := c.def_ 16 (d := d_Notebook_look_cell) rfl
  have g_Notebook_look_cell := He.meth_ok (c.fact 39 (f := .meth "Notebook" "look_cell") rfl)
  obtain ⟨fd_Notebook_look_live, F_Notebook_look_live⟩ := c.def_ 17 (d := d_Notebook_look_live) rfl
  have g_Notebook_look_live := He.meth_ok (c.fact 40 (f := .meth "Notebook" "look_live") rfl)
  obtain ⟨fd_Notebook_look_place, F_Notebook_look_place⟩ := c.def_ 18 (d := d_Notebook_look_place) rfl
  have g_Notebook_look_place := He.meth_ok (c.fact 41 (f := .meth "Notebook" "look_place") rfl)
  obtain ⟨fd_Notebook_put, F_Notebook_put⟩ := c.def_ 19 (d := d_Notebook_put) rfl
  have g_Notebook_put := He.meth_ok (c.fact 42 (f := .meth "Notebook" "put") rfl)
  obtain ⟨fd_Notebook_change, F_Notebook_change⟩ := c.def_ 20 (d := d_Notebook_change) rfl
  have g_Notebook_change := He.meth_ok (c.fact 43 (f := .meth "Notebook" "change") rfl)
  obtain ⟨fd_Notebook_setter, F_Notebook_setter⟩ := c.def_ 21 (d := d_Notebook_setter) rfl
  have g_Notebook_setter := He.meth_ok (c.fact 44 (f := .meth "Notebook" "setter") rfl)
  obtain ⟨fd_Notebook_holds, F_Notebook_holds⟩ := c.def_ 22 (d := d_Notebook_holds) rfl
  have g_Notebook_holds := He.meth_ok (c.fact 45 (f := .meth "Notebook" "holds") rfl)
  obtain ⟨fd_Notebook_last_told, F_Notebook_last_told⟩ := c.def_ 23 (d := d_Notebook_last_told) rfl
  have g_Notebook_last_told := He.meth_ok (c.fact 46 (f := .meth "Notebook" "last_told") rfl)
  obtain ⟨fd_Notebook_fresh, F_Notebook_fresh⟩ := c.def_ 24 (d := d_Notebook_fresh) rfl
  have g_Notebook_fresh := He.meth_ok (c.fact 47 (f := .meth "Notebook" "fresh") rfl)
  obtain ⟨fd_Notebook_state, F_Notebook_state⟩ := c.def_ 25 (d := d_Notebook_state) rfl
  have g_Notebook_state := He.meth_ok (c.fact 48 (f := .meth "Notebook" "state") rfl)
  obtain ⟨fd_Notebook_demand, F_Notebook_demand⟩ := c.def_ 26 (d := d_Notebook_demand) rfl
  have g_Notebook_demand := He.meth_ok (c.fact 49 (f := .meth "Notebook" "demand") rfl)
  obtain ⟨fd_Notebook_stands, F_Notebook_stands⟩ := c.def_ 27 (d := d_Notebook_stands) rfl
  have g_Notebook_stands := He.meth_ok (c.fact 50 (f := .meth "Notebook" "stands") rfl)
  obtain ⟨fd_Notebook_told, F_Notebook_told⟩ := c.def_ 28 (d := d_Notebook_told) rfl
  have g_Notebook_told := He.meth_ok (c.fact 51 (f := .meth "Notebook" "told") rfl)
  obtain ⟨fd_Notebook_asker, F_Notebook_asker⟩ := c.def_ 29 (d := d_Notebook_asker) rfl
  have g_Notebook_asker := He.meth_ok (c.fact 52 (f := .meth "Notebook" "asker") rfl)
  obtain ⟨fd_Notebook_run, F_Notebook_run⟩ := c.def_ 30 (d := d_Notebook_run) rfl
  have g_Notebook_run := He.meth_ok (c.fact 53 (f := .meth "Notebook" "run") rfl)
  obtain ⟨fd_Notebook_run_all, F_Notebook_run_all⟩ := c.def_ 31 (d := d_Notebook_run_all) rfl
  have g_Notebook_run_all := He.meth_ok (c.fact 54 (f := .meth "Notebook" "run_all") rfl)
  obtain ⟨fd_Notebook_view, F_Notebook_view⟩ := c.def_ 32 (d := d_Notebook_view) rfl
  have g_Notebook_view := He.meth_ok (c.fact 55 (f := .meth "Notebook" "view") rfl)
  obtain ⟨fd_Notebook_leans, F_Notebook_leans⟩ := c.def_ 33 (d := d_Notebook_leans) rfl
  have g_Notebook_leans := He.meth_ok (c.fact 56 (f := .meth "Notebook" "leans") rfl)
  obtain ⟨fd_live, F_live⟩ := c.def_ 34 (d := d_live) rfl
  have g_live := He.glo_ok X G (c.fact 13 (f := .glo "live") rfl)
  obtain ⟨fd_needed, F_needed⟩ := c.def_ 35 (d := d_needed) rfl
  have g_needed := He.glo_ok X G (c.fact 14 (f := .glo "needed") rfl)
  obtain ⟨fd_stirred, F_stirred⟩ := c.def_ 36 (d := d_stirred) rfl
  have g_stirred := He.glo_ok X G (c.fact 15 (f := .glo "stirred") rfl)
  obtain ⟨fd_law_cell, F_law_cell⟩ := c.def_ 37 (d := d_law_cell) rfl
  have g_law_cell := He.glo_ok X G (c.fact 16 (f := .glo "_law_cell") rfl)
  obtain ⟨fd_law, F_law⟩ := c.def_ 38 (d := d_law) rfl
  have g_law := He.glo_ok X G (c.fact 17 (f := .glo "law") rfl)
  have e := hfa.symm.trans g_law
  cases e
  have b := FunD.bindsA (ps := ["script"]) F_law fun _ _ _ _ _ _ us hl => match us, hl with | [_], _ => rfl
  refine ⟨fd_law, fun s v => b s [v] rfl, fun base _ _ htb => ?_⟩
  have h_is_within := ok_is_within (P := P) (w := w) (base := base)   F_is_within g_is_within T 
  have h_is_name := ok_is_name (P := P) (w := w) (base := base)   F_is_name g_is_name T (m_SMALL := m_SMALL) (m_BARRED := m_BARRED) (b_BARRED := b_BARRED)
  have h_is_sum := ok_is_sum (P := P) (w := w) (base := base)   F_is_sum g_is_sum T (m_WORDS := m_WORDS) (b_WORDS := b_WORDS) (h_is_within := h_is_within) (m_ROUND := m_ROUND) (h_is_name := h_is_name)
  have h_is_row := ok_is_row (P := P) (w := w) (base := base)   F_is_row g_is_row T (h_is_sum := h_is_sum) (m_MOST_DEEP := m_MOST_DEEP) (h_is_name := h_is_name)
  have h_is_source := ok_is_source (P := P) (w := w) (base := base)   F_is_source g_is_source T (h_is_row := h_is_row) (m_MOST_ROWS := m_MOST_ROWS)
  have h_look := ok_look (P := P) (w := w) (base := base)  (c_BadSource := He.ga K "BadSource") F_look g_look T (h_is_source := h_is_source) (x_BadSource := x_BadSource)
  have h_names_in := ok_names_in (P := P) (w := w) (base := base)   F_names_in g_names_in T 
  have h_sets_of := ok_sets_of (P := P) (w := w) (base := base)   F_sets_of g_sets_of T 
  have h_reads_of := ok_reads_of (P := P) (w := w) (base := base)   F_reads_of g_reads_of T (h_names_in := h_names_in)
  have h_Failed_init := ok_Failed_init (P := P) (w := w) (base := base) (mg := mg) (C := He.ga K "Failed") XF.o XF.n F_Failed_init T
  have h_reckoned := ok_reckoned (P := P) (w := w) (base := base)   F_reckoned g_reckoned T (XF := XF) (h_Failed := h_Failed_init) (m_ROUND := m_ROUND)
  have h_Record_init := ok_Record_init (P := P) (w := w) (base := base) (mg := mg)  (U := U) (F := F_Record_init) (M := M_Record_init) (g := g_Record_init) (T := T)
  have h_Cell_init := ok_Cell_init (P := P) (w := w) (base := base) (mg := mg)  (U := U) (F := F_Cell_init) (M := M_Cell_init) (g := g_Cell_init) (T := T)
  have h_Notebook_init := ok_Notebook_init (P := P) (w := w) (base := base) (mg := mg)  (U := U) (F := F_Notebook_init) (M := M_Notebook_init) (g := g_Notebook_init) (T := T)
  have h_Notebook_look_cell := ok_Notebook_look_cell (P := P) (w := w) (base := base) (mg := mg) (c_NoCell := He.ga K "NoCell") (U := U) (h_is_within := h_is_within) (x_NoCell := x_NoCell) (F := F_Notebook_look_cell) (g := g_Notebook_look_cell) (T := T)
  have h_Notebook_look_live := ok_Notebook_look_live (P := P) (w := w) (base := base) (mg := mg) (c_NoCell := He.ga K "NoCell") (c_Struck := He.ga K "Struck") (U := U) (x_Struck := x_Struck) (h_Notebook_look_cell := h_Notebook_look_cell) (F := F_Notebook_look_live) (g := g_Notebook_look_live) (T := T)
  have h_Notebook_look_place := ok_Notebook_look_place (P := P) (w := w) (base := base) (mg := mg) (c_BadNumber := He.ga K "BadNumber") (U := U) (h_is_within := h_is_within) (x_BadNumber := x_BadNumber) (F := F_Notebook_look_place) (g := g_Notebook_look_place) (T := T)
  have h_Notebook_put := ok_Notebook_put (P := P) (w := w) (base := base) (mg := mg) (c_BadNumber := He.ga K "BadNumber") (c_BadSource := He.ga K "BadSource") (c_Full := He.ga K "Full") (U := U) (i_Cell := h_Cell_init) (m_MOST_CELLS := m_MOST_CELLS) (x_Full := x_Full) (h_look := h_look) (h_Notebook_look_place := h_Notebook_look_place) (F := F_Notebook_put) (g := g_Notebook_put) (T := T)
  have h_Notebook_change := ok_Notebook_change (P := P) (w := w) (base := base) (mg := mg) (c_NoCell := He.ga K "NoCell") (c_BadNumber := He.ga K "BadNumber") (c_BadSource := He.ga K "BadSource") (c_Behind := He.ga K "Behind") (U := U) (x_Behind := x_Behind) (h_look := h_look) (h_is_within := h_is_within) (x_BadNumber := x_BadNumber) (h_Notebook_look_cell := h_Notebook_look_cell) (F := F_Notebook_change) (g := g_Notebook_change) (T := T)
  have h_Notebook_setter := ok_Notebook_setter (P := P) (w := w) (base := base) (mg := mg)  (U := U) (h_sets_of := h_sets_of) (F := F_Notebook_setter) (g := g_Notebook_setter) (T := T)
  have h_Notebook_last_told := ok_Notebook_last_told (P := P) (w := w) (base := base) (mg := mg)  (U := U) (F := F_Notebook_last_told) (g := g_Notebook_last_told) (T := T)
  have h_Notebook_asker := ok_Notebook_asker (P := P) (w := w) (base := base) (mg := mg) (W := ⟨He.ga K "Notebook", He.ga K "Cell", He.ga K "Record"⟩) (TT := (LC.ttOf K mkL)) F_Notebook_asker g_Notebook_asker (htb ("Notebook", some "asker") (List.mem_map.mpr ⟨(("Notebook", some "asker"), "Notebook.asker.<locals>.ask"), by decide, rfl⟩)) (LC.code_at (st := s_Notebook_asker) (x := "asker") (q := "Notebook.asker") (p := ("Notebook", some "asker")) F_Notebook_asker) (LC.tt_mem (q := "Notebook.asker.<locals>.ask") (by decide)) (LC.tt_one q_dist (by decide))
  have h_dem : ∀ i : Nat, LC.HasMR P w K mg base CX0 (20 + 11 * i) (He.ga K "Notebook") "demand" ["self", "number", "good", "ran"] (LC.spDem K ⟨He.ga K "Notebook", He.ga K "Cell", He.ga K "Record"⟩ (LC.ttOf K mkL) i) := by
    intro i
    induction i with
    | zero => exact LC.hasMR_never (x := "demand") (q := "Notebook.demand") (st := s_Notebook_demand) F_Notebook_demand g_Notebook_demand (F_Notebook_demand.bindsN fun _ _ _ _ _ _ us hl => match us, hl with | [_, _, _, _], _ => rfl) LC.never_dem
    | succ i ih =>
      have h_Notebook_told := ok_Notebook_told (P := P) (w := w) (base := base) (mg := mg) (TT := (LC.ttOf K mkL)) (e := 20 + 11 * i) (i := i) (U := U) (h_Notebook_last_told := h_Notebook_last_told) (h_Notebook_demand := ih) (h_Notebook_setter := h_Notebook_setter) (F := F_Notebook_told) (g := g_Notebook_told) (T := T)
      have h_Notebook_stands := ok_Notebook_stands (P := P) (w := w) (base := base) (mg := mg) (TT := (LC.ttOf K mkL)) (e := 20 + 11 * i) (i := i) (U := U) (h_Notebook_told := h_Notebook_told) (F := F_Notebook_stands) (g := g_Notebook_stands) (T := T)
      have h_ask := ok_Notebook_asker_ask (P := P) (w := w) (base := base) (mg := mg) (TT := (LC.ttOf K mkL)) (e := 20 + 11 * i) (i := i) (U := U) (XF := XF) (h_Failed := h_Failed_init) (h_Notebook_told := h_Notebook_told) (T := T)
      have h_w : ∀ n : Nat, LC.HasR P w K mg base (L2.CX P w) (20 + 11 * i + 2 + n) "worth" ["some", "mine", "ask"] (LC.spWorth K (He.ga K "Failed") (LC.mkP s_Notebook_asker_ask "ask" "Notebook.asker.<locals>.ask") LC.askFr (LC.spAsk K (He.ga K "Failed") ⟨He.ga K "Notebook", He.ga K "Cell", He.ga K "Record"⟩ (LC.ttOf K mkL) i) n) := by
        intro n
        induction n with
        | zero => exact LC.hasR_never (x := "worth") (q := "worth") (st := s_worth) F_worth g_worth (F_worth.bindsN fun _ _ _ _ _ _ us hl => match us, hl with | [_, _, _], _ => rfl) LC.never_worth
        | succ n ihn => exact ok_worth (P := P) (w := w) (base := base) (mg := mg) (e := 20 + 11 * i + 2 + n) (n := n) h_ask (by omega) (h_reckoned := h_reckoned) (h_worth := ihn) (F := F_worth) (g := g_worth) (T := T)
      have h_done := ok_done (P := P) (w := w) (base := base) (mg := mg) (e := 20 + 11 * i + 9) (n := 7) (by decide) (XF := XF) (h_Failed := h_Failed_init) (h_worth := (h_w 7)) (F := F_done) (g := g_done) (T := T)
      exact ok_Notebook_demand (P := P) (w := w) (base := base) (mg := mg) (TT := (LC.ttOf K mkL)) (e := 20 + 11 * i) (i := i) (LC.tt_mem (q := "Notebook.asker.<locals>.ask") (p := ("Notebook", some "asker")) (by decide)) (U := U) (h_Notebook_stands := h_Notebook_stands) (i_Record := h_Record_init) (h_done := h_done) (h_Notebook_asker := h_Notebook_asker) (F := F_Notebook_demand) (g := g_Notebook_demand) (T := T)
  have h_Notebook_demand := h_dem 31
  have h_Notebook_holds := ok_Notebook_holds (P := P) (w := w) (base := base) (mg := mg)  (U := U) (h_Notebook_last_told := h_Notebook_last_told) (h_Notebook_setter := h_Notebook_setter) (F := F_Notebook_holds) (g := g_Notebook_holds) (T := T)
  have h_Notebook_fresh := ok_Notebook_fresh (P := P) (w := w) (base := base) (mg := mg)  (U := U) (h_Notebook_holds := h_Notebook_holds) (F := F_Notebook_fresh) (g := g_Notebook_fresh) (T := T)
  have h_Notebook_state := ok_Notebook_state (P := P) (w := w) (base := base) (mg := mg) (c_NoCell := He.ga K "NoCell") (U := U) (h_Notebook_fresh := h_Notebook_fresh) (h_Notebook_look_cell := h_Notebook_look_cell) (F := F_Notebook_state) (g := g_Notebook_state) (T := T)
  have h_Notebook_run := (ok_Notebook_run (P := P) (w := w) (base := base) (mg := mg) (e := 361) (TT := LC.ttOf K mkL) (c_NoCell := He.ga K "NoCell") (c_Struck := He.ga K "Struck") (U := U) (h_Notebook_demand := h_Notebook_demand) (h_Notebook_look_live := h_Notebook_look_live) (F := F_Notebook_run) (g := g_Notebook_run) (T := T)).toM (k := 140) (by decide) (by decide)
  have h_Notebook_run_all := (ok_Notebook_run_all (P := P) (w := w) (base := base) (mg := mg) (e := 361) (TT := LC.ttOf K mkL)  (U := U) (h_Notebook_demand := h_Notebook_demand) (F := F_Notebook_run_all) (g := g_Notebook_run_all) (T := T)).toM (k := 140) (by decide) (by decide)
  have h_Notebook_view := ok_Notebook_view (P := P) (w := w) (base := base) (mg := mg) (c_NoCell := He.ga K "NoCell") (U := U) (h_Notebook_look_cell := h_Notebook_look_cell) (F := F_Notebook_view) (g := g_Notebook_view) (T := T)
  have h_Notebook_leans := ok_Notebook_leans (P := P) (w := w) (base := base) (mg := mg) (c_NoCell := He.ga K "NoCell") (c_Struck := He.ga K "Struck") (U := U) (h_reads_of := h_reads_of) (h_Notebook_setter := h_Notebook_setter) (h_Notebook_look_live := h_Notebook_look_live) (F := F_Notebook_leans) (g := g_Notebook_leans) (T := T)
  have h_live := ok_live (P := P) (w := w) (base := base)   F_live g_live T (U := U)
  have h_needed := ok_needed (P := P) (w := w) (base := base)  (c_NoCell := He.ga K "NoCell") (c_Struck := He.ga K "Struck") F_needed g_needed T (U := U) (h_live := h_live) (h_Notebook_leans := h_Notebook_leans) (h_Notebook_look_live := h_Notebook_look_live)
  have h_stirred := ok_stirred (P := P) (w := w) (base := base)  (c_NoCell := He.ga K "NoCell") (c_Struck := He.ga K "Struck") F_stirred g_stirred T (U := U) (h_live := h_live) (h_needed := h_needed) (h_Notebook_look_live := h_Notebook_look_live)
  have h_law_cell := ok_law_cell (P := P) (w := w) (base := base)   F_law_cell g_law_cell T 
  exact (ok_law (TT := LC.ttOf K mkL) F_law g_law T (U := U) (h_Notebook_fresh := h_Notebook_fresh) (h_Notebook_run_all := h_Notebook_run_all) (h_Notebook_state := h_Notebook_state) (h_Notebook_run := h_Notebook_run) (h__law_cell := h_law_cell) (h_stirred := h_stirred) (h_Notebook_change := h_Notebook_change) (h_Notebook_view := h_Notebook_view) (h_Notebook_put := h_Notebook_put) (i_Notebook := h_Notebook_init)).1
end K24
open PySem PySem.W PySem.Calls PyProof.Rows
theorem PySem.Challenge.cw_leancells_k24_whole_not_asked_holds : PySem.Challenge.rw_leancells_k24_whole_not_asked.Holds := by
  w_on; o_law
  refine HandSHeadRun.head_any (r := OpenLaw.row PySem.Challenge.rw_leancells_k24_whole_not_asked) (q := view (OpenLaw.row PySem.Challenge.rw_leancells_k24_whole_not_asked).prog [41]) (H := K24.hk) (ob := K24.ob) (M := 8000) (loose := K24.looseL) (d := HandSHeadRun.topDef (OpenLaw.row PySem.Challenge.rw_leancells_k24_whole_not_asked).prog 41) (kwd := []) K24.ob_eq
    (by kernel_rfl) (fun s => by kernel_rfl) K24.run (by kernel_rfl) (by kernel_rfl) (by kernel_rfl) (by rfl) (by first | assumption | decide +kernel) (by decide +kernel) ⟨rfl, rfl, rfl, rfl, rfl, by decide +kernel⟩ ?hw ?hc
  case hw => w_witness2
  case hc =>
    refine LamX.walk_ofTsE (l := PySem.Challenge.rw_leancells_k24_whole_not_asked) (n := 63) (k := 200) (x := "script") (CX := fun _ => L2.CX0) rfl (by decide) (by kernel_rfl) ⟨rfl, by decide, by decide⟩ ?F (fun _ _ _ _ _ z => z)
    intro w mg fa h Y G hmg0
    obtain ⟨K, KX, c⟩ := Y
    have hmg : mg ("law" : PySem.Str) = some (.ref fa) := by
      have e : (HandSHeadRun.topDef (OpenLaw.row PySem.Challenge.rw_leancells_k24_whole_not_asked).prog 41).name = ("law" : PySem.Str) := by kernel_rfl
      rw [← e]
      exact hmg0
    obtain ⟨fd, hb, hF⟩ := K24.facts (P := (PySem.Challenge.rw_leancells_k24_whole_not_asked).prog) (w := w) KX G hmg c
    exact ⟨K, KX, LC.lawT KX c hb hF⟩
